import PyProof.Rows.All
import Wide.All
import OpenK.AllK
import Wide.FinOn
import KE.KStateDown
import Lean
import HandS.ForMost
import HandS.Wide
import HandS.Gcd
import KE.SortData
import HandS.Style
import HandS.TupAny
import HandS.Deep
import KE.DataEq
import HandS.TupMul
import Flt.RightSqrt
import HandS.Zip
import PyProof.MaxThree
import HandS.Iter
import HandS.Flow
import HandS.Comp
import HandS.RaiseMore
import HandS.IsInst
import HandS.Words
import KE.KStar
import HandS.TryOnly
import HandS.Set
import HandS.SetFor
import HandS.Strs
import HandS.More
import HandS.TupSets
import KE.SortCalls
import PyProof.WalksMore
import HandS.SortInts
import HandS.Star
import HandS.Conv
import PyProof.Draws
import KE.KRevSl
import HandS.Defaults
import HandS.HeadEnd
import HandS.HeadHook4
import HandS.Base
import HandS.Call
import HandS.Ends
import HandS.WordsExc
import HandS.Head0
import HandS.Head1
import HandS.Head2
import HandS.HeadHook1
import HandS.HeadHook2
import HandS.HeadHook3
import HandS.Head3
import PySem.Challenge.RW_nearestheld_k36_whole_reading_never_fall
set_option Elab.async false
set_option linter.all false
set_option maxRecDepth 100000
set_option maxHeartbeats 0
namespace VI
open PySem PySem.Spec PyProof.Rows L2
abbrev D := PyData
mutual
def repB (K : PySem.W.Frag) : D → Value → Bool
  | .none, .none => true
  | .bool a, .bool b => a == b
  | .int i, .int j _ => decide (i = j)
  | .str x, .str y _ => decide (x = y)
  | .tuple ds, .ref a => (match K.lookup a with
    | some ⟨.type c, _, .seq its _, _⟩ => decide (c = "tuple") && (decide (its.size ≤ 1000) && repsB K ds its.toList)
    | _ => false)
  | _, _ => false
def repsB (K : PySem.W.Frag) : List D → List Value → Bool
  | [], [] => true
  | d :: ds, v :: vs => repB K d v && repsB K ds vs
  | _, _ => false
end
def conB (K : PySem.W.Frag) (x : Str) (d : D) : Bool := match PySem.W.nsIn K mainGlobals x with
  | some (some u) => repB K d u
  | _ => false
def bltNames : List Str := ["len", "abs", "int", "min", "max", "all", "any", "tuple", "list", "repr", "range", "enumerate", "zip", "str", "bool", "isinstance", "sorted", "set"]
namespace Hd
def top (i : Nat) : Stmt := PySem.Challenge.pw_nearestheld_k36_whole_reading_never_fall.main.body.getD i (.Pass ⟨0, 0, 0, 0⟩)
def mkD (x n : Str) (i : Nat) : He.DefD := ⟨(x, none), n, n, defArgs (top i), defBody (top i), defScope (top i), [], []⟩
def fnL : List He.DefD := [mkD (Str.ofString "whole_power") (Str.ofString "whole_power") 2, mkD (Str.ofString "reduced") (Str.ofString "reduced") 4, mkD (Str.ofString "times") (Str.ofString "times") 5, mkD (Str.ofString "power_of") (Str.ofString "power_of") 6, mkD (Str.ofString "is_power_below") (Str.ofString "is_power_below") 8, mkD (Str.ofString "power_below") (Str.ofString "power_below") 9, mkD (Str.ofString "scaled") (Str.ofString "scaled") 10, mkD (Str.ofString "parted") (Str.ofString "parted") 11, mkD (Str.ofString "raised") (Str.ofString "raised") 12, mkD (Str.ofString "is_raised") (Str.ofString "is_raised") 13, mkD (Str.ofString "finished") (Str.ofString "finished") 14, mkD (Str.ofString "without_sign") (Str.ofString "without_sign") 15, mkD (Str.ofString "rounded") (Str.ofString "rounded") 16, mkD (Str.ofString "decimal_worth") (Str.ofString "decimal_worth") 18, mkD (Str.ofString "zero") (Str.ofString "zero") 20, mkD (Str.ofString "room_of") (Str.ofString "room_of") 22, mkD (Str.ofString "bounded") (Str.ofString "bounded") 23, mkD (Str.ofString "read_decimal") (Str.ofString "read_decimal") 24, mkD (Str.ofString "_law_bag") (Str.ofString "_law_bag") 26, mkD (Str.ofString "_law_take") (Str.ofString "_law_take") 27, mkD (Str.ofString "_law_some") (Str.ofString "_law_some") 28, mkD (Str.ofString "_law_format") (Str.ofString "_law_format") 29, mkD (Str.ofString "_law_to") (Str.ofString "_law_to") 30, mkD (Str.ofString "_law_power") (Str.ofString "_law_power") 31, mkD (Str.ofString "_law_size") (Str.ofString "_law_size") 32, mkD (Str.ofString "_law_c") (Str.ofString "_law_c") 33, mkD (Str.ofString "_law_number") (Str.ofString "_law_number") 34, mkD (Str.ofString "_law_next") (Str.ofString "_law_next") 35, mkD (Str.ofString "_law_compared") (Str.ofString "_law_compared") 36, mkD (Str.ofString "_law_ends") (Str.ofString "_law_ends") 37, mkD (Str.ofString "_law_top") (Str.ofString "_law_top") 38, mkD (Str.ofString "_law_decimal_near") (Str.ofString "_law_decimal_near") 39, mkD (Str.ofString "_law_divisor_by_ten") (Str.ofString "_law_divisor_by_ten") 40, mkD (Str.ofString "_law_rank") (Str.ofString "_law_rank") 41, mkD (Str.ofString "_law_opposite") (Str.ofString "_law_opposite") 42, mkD (Str.ofString "_law_row") (Str.ofString "_law_row") 43, mkD (Str.ofString "law") (Str.ofString "law") 44]
def faL : List He.Fa := [.glo (Str.ofString "whole_power"), .glo (Str.ofString "reduced"), .glo (Str.ofString "times"), .glo (Str.ofString "power_of"), .glo (Str.ofString "is_power_below"), .glo (Str.ofString "power_below"), .glo (Str.ofString "scaled"), .glo (Str.ofString "parted"), .glo (Str.ofString "raised"), .glo (Str.ofString "is_raised"), .glo (Str.ofString "finished"), .glo (Str.ofString "without_sign"), .glo (Str.ofString "rounded"), .glo (Str.ofString "decimal_worth"), .glo (Str.ofString "zero"), .glo (Str.ofString "room_of"), .glo (Str.ofString "bounded"), .glo (Str.ofString "read_decimal"), .glo (Str.ofString "_law_bag"), .glo (Str.ofString "_law_take"), .glo (Str.ofString "_law_some"), .glo (Str.ofString "_law_format"), .glo (Str.ofString "_law_to"), .glo (Str.ofString "_law_power"), .glo (Str.ofString "_law_size"), .glo (Str.ofString "_law_c"), .glo (Str.ofString "_law_number"), .glo (Str.ofString "_law_next"), .glo (Str.ofString "_law_compared"), .glo (Str.ofString "_law_ends"), .glo (Str.ofString "_law_top"), .glo (Str.ofString "_law_decimal_near"), .glo (Str.ofString "_law_divisor_by_ten"), .glo (Str.ofString "_law_rank"), .glo (Str.ofString "_law_opposite"), .glo (Str.ofString "_law_row"), .glo (Str.ofString "law")] ++ bltNames.map He.Fa.free
def exB (K : PySem.W.Frag) : Bool := He.eqO (PySem.W.nsIn K mainGlobals "gcd") (some (some (.builtin "math.gcd"))) && (true)
def loose : List Str := ([Str.ofString "whole_power", Str.ofString "reduced", Str.ofString "times", Str.ofString "power_of", Str.ofString "is_power_below", Str.ofString "power_below", Str.ofString "scaled", Str.ofString "parted", Str.ofString "raised", Str.ofString "is_raised", Str.ofString "finished", Str.ofString "without_sign", Str.ofString "rounded", Str.ofString "decimal_worth", Str.ofString "zero", Str.ofString "room_of", Str.ofString "bounded", Str.ofString "read_decimal", Str.ofString "_law_bag", Str.ofString "_law_take", Str.ofString "_law_some", Str.ofString "_law_format", Str.ofString "_law_to", Str.ofString "_law_power", Str.ofString "_law_size", Str.ofString "_law_c", Str.ofString "_law_number", Str.ofString "_law_next", Str.ofString "_law_compared", Str.ofString "_law_ends", Str.ofString "_law_top", Str.ofString "_law_decimal_near", Str.ofString "_law_divisor_by_ten", Str.ofString "_law_rank", Str.ofString "_law_opposite"] : List Str) ++ ([Str.ofString "_law_row"] : List Str)
abbrev R : PySem.W.OpenRow := PySem.W.OpenLaw.row PySem.Challenge.rw_nearestheld_k36_whole_reading_never_fall
abbrev hk : PySem.W.Hook := He.hookX 2 faL fnL [] [] exB
def ob (s : PySem.W.SharedT) : He.AlX := He.obsX 2 faL fnL [] [] exB (HandSHeadRun.getT s)
theorem ob_eq (s : PySem.W.SharedT) : ob s = hk.obs s.abs := He.obsX_eq (HandSHeadRun.getT_eq s)
theorem runs (w : World) : HandSHeadRun.RunEqI R (PySem.W.view R.prog [0, 44]) hk ob 20000 loose w := by
  unfold HandSHeadRun.RunEqI
  kernel_rfl
open PySem PySem.W PySem.Calls PyProof.Rows in
theorem okS : (chainsOk (PySem.W.view R.prog [0, 44]) && opensWell R.prog && (frees R.toRowW && R.within.isEmpty)) = true := by decide +kernel
theorem bareS : R.prog.bare := ⟨rfl, rfl, rfl, rfl, rfl, by decide +kernel⟩
end Hd
end VI
/-! VI1: plain data, the small language, what it means (predicate transformers). -/
namespace VI
open PySem

/-- what an expression gives: data; a list of the frame's own that may change; a list that outlives the frame -/
inductive EV where
  | d (x : D) | lm (n : Nat) | gm (n : Nat) | sc (xs : List D)
/-- the lists that may change -/
structure Sto where
  g : List (List D)
  l : List (Option (List D))
abbrev En := List (Option EV)
abbrev KE := EV → Sto → Prop
/-- what a def means: arguments, outliving lists, what is wanted -/
abbrev Sem := List EV → List (List D) → (EV → List (List D) → Prop) → Prop
structure Tb where
  fn : List (Str × Nat × Sem)
  gl : List (Str × D)
def Tb.sem (tb : Tb) (k : Nat) : Sem := match tb.fn[k]? with
  | some q => q.2.2
  | none => fun _ _ _ => False

/-- both ways -/
def brP (x : Bool) (a b : Prop) : Prop := (x = true → a) ∧ (x = false → b)
theorem brT {a b : Prop} (h : a) : brP true a b := ⟨fun _ => h, fun z => Bool.noConfusion z⟩
theorem brF {a b : Prop} (h : b) : brP false a b := ⟨fun z => Bool.noConfusion z, fun _ => h⟩
theorem brT' {a b : Prop} (h : brP true a b) : a := h.1 rfl
theorem brF' {a b : Prop} (h : brP false a b) : b := h.2 rfl
def look : En → Nat → Option EV
  | [], _ => none
  | a :: _, 0 => a
  | _ :: r, n + 1 => look r n
def put : En → Nat → EV → En
  | [], _, _ => []
  | _ :: r, 0, v => some v :: r
  | a :: r, n + 1, v => a :: put r n v
def wipeE (env : En) : List Nat → En
  | [] => env
  | v :: vs => (wipeE env vs).set v none

inductive BOp where
  | add | sub | mul | fdiv | mod | pow | fdivw
  deriving DecidableEq
inductive COp where
  | lt | le | gt | ge | eq | ne | isin | notin
  deriving DecidableEq
inductive Blt where
  | str | len | abs | int | min2 | max2 | gcd | isqrt | all | any | tuple | list | repr | min3 | max3 | maxL | minL
  deriving DecidableEq
inductive Ty where
  | tuple | list | str | int | bool
  deriving DecidableEq
inductive IE where
  | cst (d : D) | var (i : Nat) | glo (k : Nat)
  | bin (o : BOp) (a b : IE) | neg (a : IE) | nt (a : IE)
  | cmp (o : COp) (a b : IE) | cmp2 (o p : COp) (a b c : IE) | isN (a : IE) | notN (a : IE)
  | an (a b : IE) | oo (a b : IE) | ife (c a b : IE)
  | nil | cons (a r : IE)
  | tup (r : IE) | lst (kd : Nat) (r : IE)
  | ixc (a : IE) (n : Nat) | ix (a i : IE) | sl (kd : Nat) (a lo hi : IE)
  | call (k : Nat) (r : IE) | blt (b : Blt) (kd : Nat) (r : IE)
  | cmpr (kd : Nat) (own : List Nat) (tg it c e : IE)
  | rng (r : IE) | enm (r : IE) | zp (r : IE)
  | isi (a : IE) (t : Ty) | scons (a r : IE) | tupS (r : IE) | lstS (kd : Nat) (r : IE)
  | srs (kd : Nat) (a : IE) | srl (kd : Nat) (a : IE) | lop (kd : Nat) (o : BOp) (a b : IE)
  | idx (a e : IE) | dget (ks : List (Str × D)) (a b : IE)
  | callS (k ar : Nat) (r : IE) | cmpr2 (kd : Nat) (own : List Nat) (tg it c tg1 it1 c1 e : IE) | isB (neg : Bool) (a b : IE)
  | sri (kd : Nat) (a : IE) | ssi (kd : Nat) (a : IE) | rgv (tp : Bool) (kd : Nat) (a : IE) | callG (k : Nat) (r : IE)
  | dix (ks : List Str) (r a : IE)
  | srd (kd : Nat) (a : IE) | rev (kd : Nat) (a : IE) | callP (n : Nat) (dsp : Bool) (a r : IE)
inductive IS where
  | skip | seq (a b : IS) | asg (t e : IE) | aug (o : BOp) (i : Nat) (e : IE) | augS (o : BOp) (a i e : IE) | setI (a i e : IE)
  | app (a e : IE) | ext (a e : IE) | ins (a i e : IE) | exp (e : IE) | clr (a : IE)
  | ifs (c : IE) (a b : IS) | whl (c : IE) (b : IS) | fr (t it : IE) (b : IS)
  | ret (e : IE) | ret0 | brk | cont | never | freeze (i : Nat) | par (is : List Nat) (r : IE)

/-- an int with less than 4301 decimals -/
def BigOk (i : Int) : Prop := i.natAbs < 10 ^ 4300
/-- pieces -/
def cutD {α : Type} (xs : List α) (lo hi : Option Int) : List α := (xs.drop (HT.sIx xs.length 0 lo)).take (HT.sIx xs.length xs.length hi - HT.sIx xs.length 0 lo)
def newL (kd : Nat) (xs : List D) (st : Sto) (k : KE) : Prop := match kd with
  | 0 => k (.d (.list xs)) st
  | 1 => k (.lm st.l.length) ⟨st.g, st.l ++ [some xs]⟩
  | _ => k (.gm st.g.length) ⟨st.g ++ [xs], st.l⟩
/-- the items of a list (true) or a tuple (false) -/
def seqE (ev : EV) (st : Sto) (k : Bool → List D → Prop) : Prop := match ev with
  | .d (.list xs) => k true xs
  | .d (.tuple xs) => k false xs
  | .lm n => (match st.l[n]? with
    | some (some xs) => k true xs
    | _ => False)
  | .gm n => (match st.g[n]? with
    | some xs => k true xs
    | none => False)
  | .sc xs => k true xs
  | _ => False
def truE (ev : EV) (st : Sto) (k : Bool → Prop) : Prop := match ev with
  | .d .none => k false
  | .d (.bool b) => k b
  | .d (.int i) => k (i != 0)
  | .d (.str x) => x.length ≤ sizeLine ∧ k (x.length != 0)
  | ev => seqE ev st fun _ xs => k (!xs.isEmpty)
def dE (ev : EV) (k : D → Prop) : Prop := match ev with
  | .d x => k x
  | _ => False
def allD : List EV → (List D → Prop) → Prop
  | [], k => k []
  | .d x :: r, k => allD r fun xs => k (x :: xs)
  | _ :: _, _ => False
/-- arguments: none is a list of the frame's own -/
def argsK : List EV → Prop → Prop
  | [], p => p
  | .lm _ :: _, _ => False
  | .d _ :: r, p => argsK r p
  | .gm _ :: r, p => argsK r p
  | .sc _ :: r, p => argsK r p
/-- arguments, one of which is a list of the frame's own: it is handed on as the n-th outliving one -/
def liftK (n : Nat) : List EV → (Nat → List EV → Prop) → Prop
  | [], _ => False
  | .lm m :: r, k => argsK r (k m (.gm n :: r))
  | .d x :: r, k => liftK n r fun m es => k m (.d x :: es)
  | .gm i :: r, k => liftK n r fun m es => k m (.gm i :: es)
  | .sc xs :: r, k => liftK n r fun m es => k m (.sc xs :: es)
/-- the lists' items as they stand -/
def contL (st : Sto) : List EV → (List D → Prop) → Prop
  | [], k => k []
  | .d x :: r, k => contL st r fun xs => k (x :: xs)
  | .lm n :: r, k => (match st.l[n]? with
    | some (some ys) => contL st r fun xs => k (.list ys :: xs)
    | _ => False)
  | .gm n :: r, k => (match st.g[n]? with
    | some ys => contL st r fun xs => k (.list ys :: xs)
    | none => False)
  | .sc _ :: _, _ => False
def atomK (v : EV) (k : EV → Prop) : Prop := match v with
  | .d (.bool b) => k (.d (.bool b))
  | .d (.int i) => k (.d (.int i))
  | .d (.str x) => k (.d (.str x))
  | .d .none => k (.d .none)
  | _ => False
def MulOk (i j : Int) : Prop := i.natAbs.log2 + j.natAbs.log2 < 1000000
def DivOk (j : Int) : Prop := 0 < j ∧ j.natAbs.log2 < 9000
def binK (o : BOp) (x y : EV) (k : EV → Prop) : Prop := match o, x, y with
  | .add, .d (.int i), .d (.int j) => k (.d (.int (i + j)))
  | .sub, .d (.int i), .d (.int j) => k (.d (.int (i - j)))
  | .mul, .d (.int i), .d (.int j) => MulOk i j ∧ k (.d (.int (i * j)))
  | .fdiv, .d (.int i), .d (.int j) => (j ≠ 0 ∧ j.natAbs.log2 < 9000) ∧ k (.d (.int (i.fdiv j)))
  | .fdivw, .d (.int i), .d (.int j) => (j ≠ 0 ∧ (j.natAbs.log2 < 9000 ∨ i.natAbs.log2 ≤ j.natAbs.log2 + 4400)) ∧ k (.d (.int (i.fdiv j)))
  | .mod, .d (.int i), .d (.int j) => 0 < j ∧ k (.d (.int (i % j)))
  | .pow, .d (.int i), .d (.int j) => (0 ≤ j ∧ j ≤ 1000000 ∧ i.natAbs < 2 ^ 64) ∧ k (.d (.int (i ^ j.toNat)))
  | .add, .d (.tuple a), .d (.tuple b) => a.length + b.length ≤ 1000000 ∧ k (.d (.tuple (a ++ b)))
  | .add, .d (.list a), .d (.list b) => a.length + b.length ≤ 1000000 ∧ k (.d (.list (a ++ b)))
  | .add, .d (.str a), .d (.str b) => a.length + b.length ≤ 1000000 ∧ k (.d (.str (a ++ b)))
  | .mul, .d (.list a), .d (.int n) => (0 ≤ n ∧ n ≤ 1000000 ∧ a.length * n.toNat ≤ 1000000) ∧ k (.d (.list (List.replicate n.toNat a).flatten))
  | .sub, .d (.bool i), .d (.bool j) => k (.d (.int ((if i = true then 1 else 0) - (if j = true then 1 else 0))))
  | .mul, .d (.tuple a), .d (.int n) => ∃ b : Bool, n = (if b = true then 1 else 0) ∧ k (.d (.tuple (if b = true then a else [])))
  | _, _, _ => False
/-- x op= y: as x op y, where x is an int -/
def augK (o : BOp) (x y : EV) (k : EV → Prop) : Prop := (match x with
  | .d (.int _) => True
  | _ => False) ∧ o ≠ .pow ∧ binK o x y k
def Shp (x : D) : Prop := SeqAt.shaped x = true
/-- two ints, two strs -/
def flatP : D → D → Bool
  | .int _, .int _ => true
  | .str _, .str _ => true
  | _, _ => false
def isStr : D → Bool
  | .str _ => true
  | _ => false
/-- a str among strs -/
def inP (x : D) (ys : List D) : Bool := isStr x && ys.all isStr
def isiD : D → Ty → Bool
  | .bool _, .bool => true
  | .bool _, .int => true
  | .int _, .int => true
  | .str _, .str => true
  | .list _, .list => true
  | .tuple _, .tuple => true
  | _, _ => false
def cmpK (o : COp) (x y : EV) (st : Sto) (k : Bool → Prop) : Prop := match o, x, y with
  | .lt, .d (.int i), .d (.int j) => k (decide (i < j))
  | .le, .d (.int i), .d (.int j) => k (decide (i ≤ j))
  | .gt, .d (.int i), .d (.int j) => k (decide (j < i))
  | .ge, .d (.int i), .d (.int j) => k (decide (j ≤ i))
  | .eq, .d x, .d y => (flatP x y = true ∨ Shp x ∧ Shp y) ∧ k (PyData.eqv x y)
  | .ne, .d x, .d y => (flatP x y = true ∨ Shp x ∧ Shp y) ∧ k (!PyData.eqv x y)
  | .isin, .d x, .d (.tuple ys) => (inP x ys = true ∨ Shp x ∧ Shp (.tuple ys)) ∧ k (ys.any fun z => PyData.eqv z x)
  | .notin, .d x, .d (.tuple ys) => (inP x ys = true ∨ Shp x ∧ Shp (.tuple ys)) ∧ k (!ys.any fun z => PyData.eqv z x)
  | .isin, .d x, .d (.list ys) => Shp x ∧ Shp (.list ys) ∧ k (ys.any fun z => PyData.eqv z x)
  | .notin, .d x, .d (.list ys) => Shp x ∧ Shp (.list ys) ∧ k (!ys.any fun z => PyData.eqv z x)
  | .eq, .lm n, .d (.list ys) => ∃ xs, st.l[n]? = some (some xs) ∧ (Shp (.list xs) ∧ Shp (.list ys)) ∧ k (PyData.eqv (.list xs) (.list ys))
  | .ne, .lm n, .d (.list ys) => ∃ xs, st.l[n]? = some (some xs) ∧ (Shp (.list xs) ∧ Shp (.list ys)) ∧ k (!PyData.eqv (.list xs) (.list ys))
  | _, _, _ => False
def isNonD : D → Bool
  | .none => true
  | _ => false
def boolsE : List D → (List Bool → Prop) → Prop
  | [], k => k []
  | .bool b :: r, k => boolsE r fun bs => k (b :: bs)
  | _ :: _, _ => False
mutual
/-- every int has fewer than 4,300 digits -/
def showB : PyData → Bool
  | .none | .bool _ | .str _ => true
  | .int i => decide (i.natAbs < 10 ^ 4300)
  | .list xs | .tuple xs => showBs xs
  | .dict _ => false
def showBs : List PyData → Bool
  | [] => true
  | x :: xs => showB x && showBs xs
end
def RepOk (x : D) : Prop := Shp x ∧ showB x = true ∧ x.shown.length ≤ 16000000
def bltK (b : Blt) (kd : Nat) (r : List EV) (st : Sto) (k : KE) : Prop := match b, r with
  | .str, [.d (.int i)] => (i.natAbs.log2 < 1920 ∨ BigOk i) ∧ k (.d (.str (toString i))) st
  | .str, [.d (.str x)] => k (.d (.str x)) st
  | .len, [.d (.str x)] => x.length ≤ sizeLine ∧ k (.d (.int x.length)) st
  | .len, [ev] => seqE ev st fun _ xs => k (.d (.int xs.length)) st
  | .abs, [.d (.int i)] => k (.d (.int i.natAbs)) st
  | .int, [.d (.int i)] => k (.d (.int i)) st
  | .int, [.d (.bool b)] => k (.d (.int (if b = true then 1 else 0))) st
  | .min2, [.d (.int i), .d (.int j)] => k (.d (.int (min i j))) st
  | .max2, [.d (.int i), .d (.int j)] => k (.d (.int (max i j))) st
  | .gcd, [.d (.int i), .d (.int j)] => k (.d (.int (Int.gcd i j))) st
  | .isqrt, [.d (.int i)] => (0 ≤ i ∧ i.natAbs.log2 < 13000) ∧ ∀ r : Int, 0 ≤ r → r * r ≤ i → i < (r + 1) * (r + 1) → k (.d (.int r)) st
  | .all, [ev] => seqE ev st fun b xs => b = true ∧ boolsE xs fun bs => k (.d (.bool (bs.all id))) st
  | .any, [ev] => seqE ev st fun b xs => b = true ∧ boolsE xs fun bs => k (.d (.bool (bs.any id))) st
  | .tuple, [ev] => seqE ev st fun _ xs => k (.d (.tuple xs)) st
  | .list, [ev] => seqE ev st fun _ xs => newL kd xs st k
  | .repr, [.d x] => RepOk x ∧ k (.d (.str x.shown)) st
  | .min3, [.d (.int i), .d (.int j), .d (.int m)] => k (.d (.int (min i (min j m)))) st
  | .max3, [.d (.int i), .d (.int j), .d (.int m)] => k (.d (.int (max i (max j m)))) st
  | .maxL, [.d (.list xs)] => ∃ ns : List Int, (xs = ns.map PyData.int ∧ ns ≠ []) ∧ ∀ m, m ∈ ns → (∀ y, y ∈ ns → y ≤ m) → k (.d (.int m)) st
  | .minL, [.d (.list xs)] => ∃ ns : List Int, (xs = ns.map PyData.int ∧ ns ≠ []) ∧ ∀ m, m ∈ ns → (∀ y, y ∈ ns → m ≤ y) → k (.d (.int m)) st
  | _, _ => False

/-- what a piece means -/
structure SE where
  e : En → Sto → KE → Prop
  t : En → Sto → (Bool → Sto → Prop) → Prop
  l : En → Sto → (List EV → Sto → Prop) → Prop
  i : En → Sto → (List D → Sto → Prop) → Prop
  a : EV → En → (En → Prop) → Prop
  al : List D → En → (En → Prop) → Prop
  o : En → Sto → (Option Int → Sto → Prop) → Prop
def noSE : SE where
  e := fun _ _ _ => False
  t := fun _ _ _ => False
  l := fun _ _ _ => False
  i := fun _ _ _ => False
  a := fun _ _ _ => False
  al := fun _ _ _ => False
  o := fun _ _ _ => False
def ofE (f : En → Sto → KE → Prop) : SE where
  e := f
  t := fun env st k => f env st fun ev st => truE ev st fun b => k b st
  l := fun _ _ _ => False
  i := fun env st k => f env st fun ev st => match ev with
    | .d (.list xs) => k xs st
    | .d (.tuple xs) => k xs st
    | .sc xs => k xs st
    | _ => False
  a := fun _ _ _ => False
  al := fun _ _ _ => False
  o := fun env st k => f env st fun ev st => match ev with
    | .d (.int n) => k (some n) st
    | _ => False
/-- what gives a truth -/
def ofB (f : En → Sto → (Bool → Sto → Prop) → Prop) : SE where
  e := fun env st k => f env st fun b st => k (.d (.bool b)) st
  t := f
  l := fun _ _ _ => False
  i := fun _ _ _ => False
  a := fun _ _ _ => False
  al := fun _ _ _ => False
  o := fun _ _ _ => False
def ofI (f : En → Sto → (List D → Sto → Prop) → Prop) : SE where
  e := fun _ _ _ => False
  t := fun _ _ _ => False
  l := fun _ _ _ => False
  i := f
  a := fun _ _ _ => False
  al := fun _ _ _ => False
  o := fun _ _ _ => False
def upto (lo : Int) (n : Nat) : List D := (List.range n).map fun i => .int (lo + (i : Nat))
def downto (hi : Int) (n : Nat) : List D := (List.range n).map fun i => .int (hi - (i : Nat))
def rngK (r : List EV) (st : Sto) (k : List D → Sto → Prop) : Prop := match r with
  | [.d (.int n)] => (-(2 ^ 62) ≤ n ∧ n < 2 ^ 62) ∧ k (upto 0 n.toNat) st
  | [.d (.int a), .d (.int b)] => (a ≤ a ∧ a ≤ a ∧ b ≤ b ∧ b ≤ b) ∧ k (upto a (b - a).toNat) st
  | [.d (.int a), .d (.int b), .d (.int c)] => (c = -1 ∧ -(2 ^ 62) ≤ a ∧ a < 2 ^ 62 ∧ -(2 ^ 62) ≤ b ∧ b < 2 ^ 62) ∧ k (downto a (a - b).toNat) st
  | _ => False
def enmK (r : List EV) (st : Sto) (k : List D → Sto → Prop) : Prop := match r with
  | [.d (.list xs)] => k (xs.mapIdx fun i x => .tuple [.int (i : Nat), x]) st
  | [.d (.tuple xs)] => k (xs.mapIdx fun i x => .tuple [.int (i : Nat), x]) st
  | _ => False
def zpK (r : List EV) (st : Sto) (k : List D → Sto → Prop) : Prop := match r with
  | [.d (.list xs), .d (.list ys)] => k (List.zipWith (fun x y => .tuple [x, y]) xs ys) st
  | [.d (.tuple xs), .d (.tuple ys)] => k (List.zipWith (fun x y => .tuple [x, y]) xs ys) st
  | _ => False
/-- a new list by + and * -/
def lopK (kd : Nat) (o : BOp) (x y : EV) (st : Sto) (k : KE) : Prop := match o, x, y with
  | .add, .d (.list a), .d (.list b) => a.length + b.length ≤ 1000000 ∧ newL kd (a ++ b) st k
  | .mul, .d (.list a), .d (.int n) => (0 ≤ n ∧ n ≤ 1000000 ∧ a.length * n.toNat ≤ 1000000) ∧ newL kd (List.replicate n.toNat a).flatten st k
  | _, _, _ => False
/-- the texts of a list, each once, in their order -/
def SrtOf (ts ys : List Str) : Prop := PyProof.Rows.sortedS ys = true ∧ ys.Nodup ∧ ∀ t, t ∈ ys ↔ t ∈ ts
def srsK (kd : Nat) (x : EV) (st : Sto) (k : KE) : Prop := match x with
  | .d (.list xs) => ∃ ts : List Str, (xs = ts.map PyData.str ∧ ts.length < 64) ∧ ∀ ys, SrtOf ts ys → newL kd (ys.map PyData.str) st k
  | .d (.tuple xs) => ∃ ts : List Str, (xs = ts.map PyData.str ∧ ts.length < 64) ∧ ∀ ys, SrtOf ts ys → newL kd (ys.map PyData.str) st k
  | _ => False
/-- the texts of a list in their order -/
def SrlOf (ts ys : List Str) : Prop := PyProof.Rows.sortedS ys = true ∧ ys.Perm ts
def srlK (kd : Nat) (x : EV) (st : Sto) (k : KE) : Prop := match x with
  | .d (.list xs) => ∃ ts : List Str, (xs = ts.map PyData.str ∧ ts.length < 64) ∧ ∀ ys, SrlOf ts ys → newL kd (ys.map PyData.str) st k
  | _ => False
/-- ints in their order -/
def SriOf (ns ys : List Int) : Prop := ys.Perm ns ∧ ys.Pairwise (· ≤ ·)
def sriK (kd : Nat) (x : EV) (st : Sto) (k : KE) : Prop := match x with
  | .d (.list xs) => ∃ ns : List Int, xs = ns.map PyData.int ∧ ∀ ys, SriOf ns ys → newL kd (ys.map PyData.int) st k
  | _ => False
/-- ints in their order, each once -/
def SsiOf (ns ys : List Int) : Prop := ys.Pairwise (· < ·) ∧ ∀ n, n ∈ ys ↔ n ∈ ns
def ssiK (kd : Nat) (x : EV) (st : Sto) (k : KE) : Prop := match x with
  | .d (.list xs) => ∃ ns : List Int, (xs = ns.map PyData.int ∧ ns.length < 64) ∧ ∀ ys, SsiOf ns ys → newL kd (ys.map PyData.int) st k
  | _ => False
/-- alike data in their order -/
def srdK (kd : Nat) (x : EV) (st : Sto) (k : KE) : Prop := match x with
  | .d (.list xs) => (PySem.W.AllAlike xs ∧ PySem.W.Sortable xs ∧ ∀ d ∈ xs, d.depth ≤ 60) ∧ newL kd (xs.mergeSort (PySem.W.dataLe false id)) st k
  | _ => False
/-- a tuple or a list from its end on -/
def revK (kd : Nat) (x : EV) (st : Sto) (k : KE) : Prop := match x with
  | .d (.tuple xs) => k (.d (.tuple xs.reverse)) st
  | x => seqE x st fun _ xs => newL kd xs.reverse st k
/-- a list or a tuple of a range -/
def rgvK (tp : Bool) (kd : Nat) (r : EV) (st : Sto) (k : KE) : Prop := match r with
  | .d (.int n) => (-(2 ^ 62) ≤ n ∧ n < 2 ^ 24) ∧ (match tp with
    | true => k (.d (.tuple (upto 0 n.toNat))) st
    | false => newL kd (upto 0 n.toNat) st k)
  | _ => False
/-- both truths: is -/
def isBK (neg : Bool) (x y : EV) (k : Bool → Prop) : Prop := match x, y with
  | .d (.bool i), .d (.bool j) => (match neg with
    | true => k (!decide (i = j))
    | false => k (decide (i = j)))
  | _, _ => False
def lstE : EV → Prop
  | .d (.list _) => True
  | _ => False
/-- an int's first place in a list of ints -/
def idxK (x y : EV) (k : EV → Prop) : Prop := match x, y with
  | .d (.list xs), .d (.int m) => ∃ ns : List Int, (xs = ns.map PyData.int ∧ m ∈ ns) ∧ ∀ j : Nat, ns[j]? = some m → (∀ i, i < j → ns[i]? ≠ some m) → k (.d (.int j))
  | _, _ => False
/-- a displayed dict's value for a text, or another one -/
def dgetK (ks : List (Str × D)) (x y : EV) (k : EV → Prop) : Prop := match x with
  | .d (.str z) => (match ks.lookup z with
    | some v => k (.d v)
    | none => k y)
  | _ => False
/-- a displayed dict's item -/
def dixK (ks : List (Str × D)) (x : EV) (k : EV → Prop) : Prop := match x with
  | .d (.str z) => (match ks.lookup z with
    | some v => k (.d v)
    | none => False)
  | _ => False
def loopC (tg : EV → En → (En → Prop) → Prop) (c : En → Sto → (Bool → Sto → Prop) → Prop) (e : En → Sto → KE → Prop) (env : En) : List D → Sto → List D → (List D → Sto → Prop) → Prop
  | [], st, acc, k => k acc st
  | x :: r, st, acc, k => tg (.d x) env fun env' => c env' st fun b st1 => brP b (e env' st1 fun ev st2 => dE ev fun y => loopC tg c e env r st2 (acc ++ [y]) k) (loopC tg c e env r st1 acc k)
def loopC2 (tg : EV → En → (En → Prop) → Prop) (c : En → Sto → (Bool → Sto → Prop) → Prop) (it1 : En → Sto → (List D → Sto → Prop) → Prop) (own1 : List Nat) (tg1 : EV → En → (En → Prop) → Prop) (c1 : En → Sto → (Bool → Sto → Prop) → Prop) (e : En → Sto → KE → Prop) (env : En) : List D → Sto → List D → (List D → Sto → Prop) → Prop
  | [], st, acc, k => k acc st
  | x :: r, st, acc, k => tg (.d x) env fun env' => c env' st fun b st1 => brP b (it1 env' st1 fun ys st2 => acc.length + ys.length ≤ 1000000 ∧ loopC tg1 c1 e (wipeE env' own1) ys st2 acc fun acc2 st3 => loopC2 tg c it1 own1 tg1 c1 e env r st3 acc2 k) (loopC2 tg c it1 own1 tg1 c1 e env r st1 acc k)
def slotsOf : IE → List Nat
  | .var i => [i]
  | .tup r => slotsOf r
  | .cons a r => slotsOf a ++ slotsOf r
  | _ => []
def sem (tb : Tb) : IE → SE
  | .cst d => ofE fun _ st k => k (.d d) st
  | .var i => { ofE (fun env st k => match look env i with
      | some ev => k ev st
      | none => False) with a := fun ev env k => k (put env i ev) }
  | .glo n => ofE fun _ st k => match tb.gl[n]? with
      | some q => k (.d q.2) st
      | none => False
  | .bin o a b => ofE fun env st k => (sem tb a).e env st fun x st => (sem tb b).e env st fun y st => binK o x y fun z => k z st
  | .neg a => ofE fun env st k => (sem tb a).e env st fun x st => match x with
      | .d (.int i) => k (.d (.int (-i))) st
      | _ => False
  | .nt a => { ofE (fun env st k => (sem tb a).e env st fun x st => truE x st fun b => k (.d (.bool (!b))) st) with t := fun env st k => (sem tb a).t env st fun b st => k (!b) st }
  | .cmp o a b => ofB fun env st k => (sem tb a).e env st fun x st => (sem tb b).e env st fun y st => cmpK o x y st fun z => k z st
  | .cmp2 o p a b c => ofB fun env st k => (sem tb a).e env st fun x st => (sem tb b).e env st fun y st => cmpK o x y st fun z => brP z ((sem tb c).e env st fun w st => cmpK p y w st fun z => k z st) (k false st)
  | .isN a => ofB fun env st k => (sem tb a).e env st fun x st => dE x fun y => k (isNonD y) st
  | .notN a => ofB fun env st k => (sem tb a).e env st fun x st => dE x fun y => k (!isNonD y) st
  | .an a b => { ofE (fun env st k => (sem tb a).e env st fun x st => match x with
      | .d (.bool c) => brP c ((sem tb b).e env st k) (k (.d (.bool false)) st)
      | _ => False) with t := fun env st k => (sem tb a).t env st fun x st => brP x ((sem tb b).t env st k) (k false st) }
  | .oo a b => { ofE (fun env st k => (sem tb a).e env st fun x st => match x with
      | .d (.bool c) => brP c (k (.d (.bool true)) st) ((sem tb b).e env st k)
      | _ => False) with t := fun env st k => (sem tb a).t env st fun x st => brP x (k true st) ((sem tb b).t env st k) }
  | .ife c a b => ofE fun env st k => (sem tb c).t env st fun x st => brP x ((sem tb a).e env st k) ((sem tb b).e env st k)
  | .nil => { noSE with
      t := fun _ st k => k true st
      l := fun _ st k => k [] st
      al := fun xs env k => xs = [] ∧ k env
      o := fun _ st k => k none st }
  | .cons a r => { noSE with
      l := fun env st k => (sem tb a).e env st fun x st => (sem tb r).l env st fun xs st => k (x :: xs) st
      al := fun xs env k => match xs with
        | [] => False
        | x :: xs => (sem tb a).a (.d x) env fun env => (sem tb r).al xs env k }
  | .tup r => { ofE (fun env st k => (sem tb r).l env st fun xs st => allD xs fun ys => k (.d (.tuple ys)) st) with a := fun ev env k => match ev with
      | .d (.tuple xs) => (sem tb r).al xs env k
      | .d (.list xs) => (sem tb r).al xs env k
      | _ => False }
  | .lst kd r => ofE fun env st k => (sem tb r).l env st fun xs st => allD xs fun ys => newL kd ys st k
  | .ixc a n => ofE fun env st k => (sem tb a).e env st fun x st => seqE x st fun _ xs => match xs[n]? with
      | some y => k (.d y) st
      | none => False
  | .ix a i => ofE fun env st k => (sem tb a).e env st fun x st => (sem tb i).e env st fun j st => match j with
      | .d (.int n) => seqE x st fun _ xs => (match L2.atI xs n with
        | some y => k (.d y) st
        | none => False)
      | _ => False
  | .sl kd a lo hi => ofE fun env st k => (sem tb a).e env st fun x st => (sem tb lo).o env st fun l st => (sem tb hi).o env st fun h st => match x with
      | .d (.tuple xs) => k (.d (.tuple (cutD xs l h))) st
      | .d (.str z) => z.length ≤ sizeLine ∧ k (.d (.str ⟨(cutD z.cps.toList l h).toArray⟩)) st
      | x => seqE x st fun _ xs => newL kd (cutD xs l h) st k
  | .call n r => ofE fun env st k => (sem tb r).l env st fun xs st => argsK xs (tb.sem n xs st.g fun v g => k v ⟨g, st.l⟩)
  | .blt b kd r => ofE fun env st k => (sem tb r).l env st fun xs st => bltK b kd xs st k
  | .cmpr kd own tg it c e => ofE fun env st k => (sem tb it).i env st fun xs st => xs.length ≤ 10000000 ∧ loopC (sem tb tg).a (sem tb c).t (sem tb e).e (wipeE env own) xs st [] fun ys st => newL kd ys st k
  | .rng r => ofI fun env st k => (sem tb r).l env st fun xs st => rngK xs st k
  | .enm r => ofI fun env st k => (sem tb r).l env st fun xs st => enmK xs st k
  | .zp r => ofI fun env st k => (sem tb r).l env st fun xs st => zpK xs st k
  | .isi a t => ofB fun env st k => (sem tb a).e env st fun x st => dE x fun y => k (isiD y t) st
  | .scons a r => { noSE with
      l := fun env st k => (sem tb a).e env st fun x st => seqE x st fun _ ds => (sem tb r).l env st fun xs st => k (ds.map EV.d ++ xs) st }
  | .tupS r => ofE fun env st k => (sem tb r).l env st fun xs st => xs.length ≤ 1000000 ∧ allD xs fun ys => k (.d (.tuple ys)) st
  | .lstS kd r => ofE fun env st k => (sem tb r).l env st fun xs st => xs.length ≤ 1000000 ∧ allD xs fun ys => newL kd ys st k
  | .srs kd a => ofE fun env st k => (sem tb a).e env st fun x st => srsK kd x st k
  | .srl kd a => ofE fun env st k => (sem tb a).e env st fun x st => srlK kd x st k
  | .lop kd o a b => ofE fun env st k => (sem tb a).e env st fun x st => (sem tb b).e env st fun y st => lopK kd o x y st k
  | .idx a e => ofE fun env st k => (sem tb a).e env st fun x st => lstE x ∧ (sem tb e).e env st fun y st => idxK x y fun z => k z st
  | .dget ks a b => ofE fun env st k => (sem tb a).e env st fun x st => (sem tb b).e env st fun y st => dgetK ks x y fun z => k z st
  | .callS n ar r => ofE fun env st k => (sem tb r).l env st fun xs st => xs.length = ar ∧ argsK xs (tb.sem n xs st.g fun v g => k v ⟨g, st.l⟩)
  | .cmpr2 kd own tg it c tg1 it1 c1 e => ofE fun env st k => (sem tb it).i env st fun xs st => loopC2 (sem tb tg).a (sem tb c).t (sem tb it1).i (slotsOf tg1) (sem tb tg1).a (sem tb c1).t (sem tb e).e (wipeE env own) xs st [] fun ys st => newL kd ys st k
  | .isB neg a b => ofB fun env st k => (sem tb a).e env st fun x st => (sem tb b).e env st fun y st => isBK neg x y fun z => k z st
  | .sri kd a => ofE fun env st k => (sem tb a).e env st fun x st => sriK kd x st k
  | .ssi kd a => ofE fun env st k => (sem tb a).e env st fun x st => ssiK kd x st k
  | .callG n r => ofE fun env st k => (sem tb r).l env st fun xs st => liftK st.g.length xs fun m es => match st.l[m]? with
      | some (some ys) => tb.sem n es (st.g ++ [ys]) fun v g => dE v fun x => ∃ g0 ys', (g = g0 ++ [ys'] ∧ g0.length = st.g.length) ∧ k (.d x) ⟨g0, st.l.set m (some ys')⟩
      | _ => False
  | .rgv tp kd a => ofE fun env st k => (sem tb a).e env st fun x st => rgvK tp kd x st k
  | .callP n dsp a r => ofE fun env st k => match dsp with
    | true => (sem tb a).l env st fun evs st => (sem tb r).l env st fun es st => contL st evs fun ds => contL st es fun ds2 => tb.sem n (.d (.list ds) :: ds2.map EV.d) [] fun v _ => atomK v fun x => k x st
    | false => (sem tb a).e env st fun ev st => (sem tb r).l env st fun es st => contL st [ev] fun ds => contL st es fun ds2 => tb.sem n (ds.map EV.d ++ ds2.map EV.d) [] fun v _ => atomK v fun x => k x st
  | .srd kd a => ofE fun env st k => (sem tb a).e env st fun x st => srdK kd x st k
  | .rev kd a => ofE fun env st k => (sem tb a).e env st fun x st => revK kd x st k
  | .dix ks r a => ofE fun env st k => (sem tb r).l env st fun xs st => allD xs fun ds => ks.length = ds.length ∧ (sem tb a).e env st fun x st => dixK (ks.zip ds) x fun z => k z st

/-- what is wanted behind a statement -/
structure KS where
  nx : En → Sto → Prop
  rt : EV → Sto → Prop
  bk : En → Sto → Prop
  ct : En → Sto → Prop
/-- a list that may change: its new items -/
def setS (ev : EV) (st : Sto) (f : List D → (List D → Prop) → Prop) (k : Sto → Prop) : Prop := match ev with
  | .lm n => (match st.l[n]? with
    | some (some xs) => f xs fun ys => k ⟨st.g, st.l.set n (some ys)⟩
    | _ => False)
  | .gm n => (match st.g[n]? with
    | some xs => f xs fun ys => k ⟨st.g.set n ys, st.l⟩
    | none => False)
  | _ => False
/-- a list that may change -/
def mutE : EV → Prop
  | .lm _ => True
  | .gm _ => True
  | _ => False
def ixK (j : EV) (n : Nat) (k : Nat → Prop) : Prop := match j with
  | .d (.int i) => (match L2.ixN n i with
    | some m => k m
    | none => False)
  | _ => False
def loopF (tg : EV → En → (En → Prop) → Prop) (b : En → Sto → KS → Prop) : List D → En → Sto → KS → Prop
  | [], env, st, K => K.nx env st
  | x :: r, env, st, K => tg (.d x) env fun env' => b env' st { nx := fun e s => loopF tg b r e s K, rt := K.rt, bk := K.nx, ct := fun e s => loopF tg b r e s K }
def whlK (c : En → Sto → (Bool → Sto → Prop) → Prop) (b : En → Sto → KS → Prop) (env : En) (st : Sto) (K : KS) : Prop :=
  ∃ I : Nat → En → Sto → Prop, (∃ m, I m env st) ∧ ∀ m env st, I m env st → c env st fun t st => brP t (b env st { nx := fun e s => ∃ m', m' < m ∧ I m' e s, rt := K.rt, bk := K.nx, ct := fun e s => ∃ m', m' < m ∧ I m' e s }) (K.nx env st)
/-- several names -/
def puts : En → List Nat → List EV → (En → Prop) → Prop
  | env, [], [], k => k env
  | env, i :: is, e :: es, k => puts (put env i e) is es k
  | _, _, _, _ => False
def semS (tb : Tb) : IS → En → Sto → KS → Prop
  | .skip, env, st, K => K.nx env st
  | .seq a b, env, st, K => semS tb a env st { K with nx := fun env st => semS tb b env st K }
  | .asg t e, env, st, K => (sem tb e).e env st fun ev st => (sem tb t).a ev env fun env => K.nx env st
  | .aug o i e, env, st, K => (match look env i with
      | some x => (sem tb e).e env st fun y st => augK o x y fun z => K.nx (put env i z) st
      | none => False)
  | .augS o a i e, env, st, K => (sem tb a).e env st fun x st => (sem tb i).e env st fun j st => seqE x st fun b xs => b = true ∧ ixK j xs.length fun m => (match xs[m]? with
      | some old => (sem tb e).e env st fun y st => augK o (.d old) y fun z => dE z fun w => setS x st (fun xs k => ixK j xs.length fun m => k (xs.set m w)) fun st => K.nx env st
      | none => False)
  | .setI a i e, env, st, K => (sem tb e).e env st fun y st => (sem tb a).e env st fun x st => (sem tb i).e env st fun j st => dE y fun w => setS x st (fun xs k => ixK j xs.length fun m => k (xs.set m w)) fun st => K.nx env st
  | .app a e, env, st, K => (sem tb a).e env st fun x st => mutE x ∧ (sem tb e).e env st fun y st => dE y fun w => setS x st (fun xs k => xs.length < 1000000 ∧ k (xs ++ [w])) fun st => K.nx env st
  | .ext a e, env, st, K => (sem tb a).e env st fun x st => mutE x ∧ (sem tb e).e env st fun y st => (match y with
      | .d (.list ys) => setS x st (fun xs k => xs.length + ys.length ≤ 1000000 ∧ k (xs ++ ys)) fun st => K.nx env st
      | .d (.tuple ys) => setS x st (fun xs k => xs.length + ys.length ≤ 1000000 ∧ k (xs ++ ys)) fun st => K.nx env st
      | _ => False)
  | .ins a i e, env, st, K => (sem tb a).e env st fun x st => mutE x ∧ (sem tb i).e env st fun j st => (sem tb e).e env st fun y st => dE y fun w => (match j with
      | .d (.int n) => (0 ≤ n ∧ n < 2 ^ 62) ∧ setS x st (fun xs k => xs.length < 1000000 ∧ k (xs.take n.toNat ++ [w] ++ xs.drop n.toNat)) fun st => K.nx env st
      | _ => False)
  | .exp e, env, st, K => (sem tb e).e env st fun _ st => K.nx env st
  | .clr a, env, st, K => (sem tb a).e env st fun x st => mutE x ∧ setS x st (fun _ k => k []) fun st => K.nx env st
  | .ifs c a b, env, st, K => (sem tb c).t env st fun x st => brP x (semS tb a env st K) (semS tb b env st K)
  | .whl c b, env, st, K => whlK (sem tb c).t (semS tb b) env st K
  | .fr t it b, env, st, K => (sem tb it).i env st fun xs st => loopF (sem tb t).a (semS tb b) xs env st K
  | .ret e, env, st, K => (sem tb e).e env st K.rt
  | .ret0, env, st, K => K.rt (.d .none) st
  | .brk, env, st, K => K.bk env st
  | .cont, env, st, K => K.ct env st
  | .never, _, _, _ => False
  | .par is r, env, st, K => (sem tb r).l env st fun evs st => puts env is evs fun env => K.nx env st
  | .freeze i, env, st, K => (match look env i with
      | some (.lm n) => (match st.l[n]? with
        | some (some xs) => K.nx (put env i (.d (.list xs))) ⟨st.g, st.l.set n none⟩
        | _ => False)
      | _ => False)
/-- a result that leaves its frame -/
def outE (ev : EV) (st : Sto) (k : EV → Prop) : Prop := match ev with
  | .d x => k (.d x)
  | .gm n => k (.gm n)
  | .lm n => (match st.l[n]? with
    | some (some xs) => k (.d (.list xs))
    | _ => False)
  | .sc _ => False
/-- a def by its body: n names, the parameters first -/
def semF (tb : Tb) (n : Nat) (b : IS) : Sem := fun vs g Q =>
  semS tb b (vs.map some ++ List.replicate (n - vs.length) none) ⟨g, []⟩ { nx := fun _ st => Q (.d .none) st.g, rt := fun ev st => outE ev st fun v => Q v st.g, bk := fun _ _ => False, ct := fun _ _ => False }
end VI

/-! VI2: the transformers are monotone. -/
namespace VI
open PySem
def SemMono (f : Sem) : Prop := ∀ vs g Q Q', (∀ v g, Q v g → Q' v g) → f vs g Q → f vs g Q'
def Tb.Mono (tb : Tb) : Prop := ∀ k, SemMono (tb.sem k)
theorem newL_mono {kd : Nat} {xs : List D} {st : Sto} {k k' : KE} (h : ∀ v s, k v s → k' v s) (q : newL kd xs st k) : newL kd xs st k' := by
  unfold newL at q ⊢
  split at q <;> exact h _ _ q
theorem seqE_mono {ev : EV} {st : Sto} {k k' : Bool → List D → Prop} (h : ∀ b xs, k b xs → k' b xs) (q : seqE ev st k) : seqE ev st k' := by
  unfold seqE at q ⊢
  split at q <;> first | exact h _ _ q | (split at q <;> first | exact h _ _ q | exact q.elim) | exact q.elim
theorem truE_mono {ev : EV} {st : Sto} {k k' : Bool → Prop} (h : ∀ b, k b → k' b) (q : truE ev st k) : truE ev st k' := by
  unfold truE at q ⊢
  split at q <;> first | exact h _ q | exact ⟨q.1, h _ q.2⟩ | exact seqE_mono (fun _ _ => h _) q
theorem dE_mono {ev : EV} {k k' : D → Prop} (h : ∀ x, k x → k' x) (q : dE ev k) : dE ev k' := by
  unfold dE at q ⊢
  split at q <;> first | exact h _ q | exact q.elim
theorem allD_mono : ∀ {evs : List EV} {k k' : List D → Prop}, (∀ x, k x → k' x) → allD evs k → allD evs k'
  | [], _, _, h, q => h _ q
  | .d x :: r, _, _, h, q => allD_mono (evs := r) (fun xs => h (x :: xs)) q
  | .lm _ :: _, _, _, _, q => q.elim
  | .gm _ :: _, _, _, _, q => q.elim
  | .sc _ :: _, _, _, _, q => q.elim
theorem argsK_mono : ∀ {evs : List EV} {p q : Prop}, (p → q) → argsK evs p → argsK evs q
  | [], _, _, h, z => h z
  | .d _ :: r, _, _, h, z => argsK_mono (evs := r) h z
  | .gm _ :: r, _, _, h, z => argsK_mono (evs := r) h z
  | .sc _ :: r, _, _, h, z => argsK_mono (evs := r) h z
  | .lm _ :: _, _, _, _, z => z.elim
theorem liftK_mono {n : Nat} : ∀ {evs : List EV} {p q : Nat → List EV → Prop}, (∀ m es, p m es → q m es) → liftK n evs p → liftK n evs q
  | [], _, _, _, z => z.elim
  | .lm m :: r, _, _, h, z => argsK_mono (h m _) z
  | .d x :: r, _, _, h, z => liftK_mono (evs := r) (fun m es => h m _) z
  | .gm i :: r, _, _, h, z => liftK_mono (evs := r) (fun m es => h m _) z
  | .sc xs :: r, _, _, h, z => liftK_mono (evs := r) (fun m es => h m _) z
theorem boolsE_mono : ∀ {xs : List D} {k k' : List Bool → Prop}, (∀ x, k x → k' x) → boolsE xs k → boolsE xs k'
  | [], _, _, h, q => h _ q
  | .bool b :: r, _, _, h, q => boolsE_mono (xs := r) (fun xs => h (b :: xs)) q
  | .none :: _, _, _, _, q => q.elim
  | .int _ :: _, _, _, _, q => q.elim
  | .str _ :: _, _, _, _, q => q.elim
  | .list _ :: _, _, _, _, q => q.elim
  | .tuple _ :: _, _, _, _, q => q.elim
  | .dict _ :: _, _, _, _, q => q.elim
theorem binK_mono {o : BOp} {x y : EV} {k k' : EV → Prop} (h : ∀ v, k v → k' v) (q : binK o x y k) : binK o x y k' := by
  unfold binK at q ⊢
  split at q <;> first | exact h _ q | exact ⟨q.1, h _ q.2⟩ | (obtain ⟨b, e, q⟩ := q; exact ⟨b, e, h _ q⟩) | exact q.elim
theorem cmpK_mono {o : COp} {x y : EV} {st : Sto} {k k' : Bool → Prop} (h : ∀ v, k v → k' v) (q : cmpK o x y st k) : cmpK o x y st k' := by
  unfold cmpK at q ⊢
  split at q <;> first | exact h _ q | exact ⟨q.1, h _ q.2⟩ | exact ⟨q.1, q.2.1, h _ q.2.2⟩ | (obtain ⟨xs, e, s, q⟩ := q; exact ⟨xs, e, s, h _ q⟩) | exact q.elim
theorem bltK_mono {b : Blt} {kd : Nat} {r : List EV} {st : Sto} {k k' : KE} (h : ∀ v s, k v s → k' v s) (q : bltK b kd r st k) : bltK b kd r st k' := by
  unfold bltK at q ⊢
  split at q <;> first
    | exact h _ _ q
    | exact ⟨q.1, h _ _ q.2⟩
    | exact seqE_mono (fun _ _ => h _ _) q
    | exact seqE_mono (fun _ _ q => ⟨q.1, boolsE_mono (fun _ => h _ _) q.2⟩) q
    | exact seqE_mono (fun _ _ => newL_mono h) q
    | (obtain ⟨ns, a, b⟩ := q; exact ⟨ns, a, fun m z y => h _ _ (b m z y)⟩)
    | exact ⟨q.1, fun r a b c => h _ _ (q.2 r a b c)⟩
    | exact q.elim
theorem rngK_mono {r : List EV} {st : Sto} {k k' : List D → Sto → Prop} (h : ∀ v s, k v s → k' v s) (q : rngK r st k) : rngK r st k' := by
  unfold rngK at q ⊢
  split at q <;> first | exact ⟨q.1, h _ _ q.2⟩ | exact q.elim
theorem enmK_mono {r : List EV} {st : Sto} {k k' : List D → Sto → Prop} (h : ∀ v s, k v s → k' v s) (q : enmK r st k) : enmK r st k' := by
  unfold enmK at q ⊢
  split at q <;> first | exact h _ _ q | exact q.elim
theorem sriK_mono {kd : Nat} {x : EV} {st : Sto} {k k' : KE} (h : ∀ v s, k v s → k' v s) (q : sriK kd x st k) : sriK kd x st k' := by
  unfold sriK at q ⊢
  split at q
  · obtain ⟨ts, a, b⟩ := q
    exact ⟨ts, a, fun ys z => newL_mono h (b ys z)⟩
  · exact q
theorem ssiK_mono {kd : Nat} {x : EV} {st : Sto} {k k' : KE} (h : ∀ v s, k v s → k' v s) (q : ssiK kd x st k) : ssiK kd x st k' := by
  unfold ssiK at q ⊢
  split at q
  · obtain ⟨ts, a, b⟩ := q
    exact ⟨ts, a, fun ys z => newL_mono h (b ys z)⟩
  · exact q
theorem contL_mono {st : Sto} : ∀ {evs : List EV} {k k' : List D → Prop}, (∀ xs, k xs → k' xs) → contL st evs k → contL st evs k'
  | [], k, k', h, q => h _ q
  | .d x :: r, k, k', h, q => contL_mono (evs := r) (fun xs => h _) q
  | .lm n :: r, k, k', h, q => by
    unfold contL at q ⊢
    split at q
    · exact contL_mono (evs := r) (fun xs => h _) q
    · exact q.elim
  | .gm n :: r, k, k', h, q => by
    unfold contL at q ⊢
    split at q
    · exact contL_mono (evs := r) (fun xs => h _) q
    · exact q.elim
  | .sc ys :: r, k, k', h, q => q.elim
theorem atomK_mono {v : EV} {k k' : EV → Prop} (h : ∀ x, k x → k' x) (q : atomK v k) : atomK v k' := by
  unfold atomK at q ⊢
  split at q <;> first | exact h _ q | exact q.elim
theorem srdK_mono {kd : Nat} {x : EV} {st : Sto} {k k' : KE} (h : ∀ v s, k v s → k' v s) (q : srdK kd x st k) : srdK kd x st k' := by
  unfold srdK at q ⊢
  split at q
  · exact ⟨q.1, newL_mono h q.2⟩
  · exact q
theorem revK_mono {kd : Nat} {x : EV} {st : Sto} {k k' : KE} (h : ∀ v s, k v s → k' v s) (q : revK kd x st k) : revK kd x st k' := by
  unfold revK at q ⊢
  split at q
  · exact h _ _ q
  · exact seqE_mono (fun _ _ => newL_mono h) q
theorem rgvK_mono {tp : Bool} {kd : Nat} {r : EV} {st : Sto} {k k' : KE} (h : ∀ v s, k v s → k' v s) (q : rgvK tp kd r st k) : rgvK tp kd r st k' := by
  unfold rgvK at q ⊢
  split at q
  · refine ⟨q.1, ?_⟩
    have q := q.2
    split at q
    · exact h _ _ q
    · exact newL_mono h q
  · exact q
theorem isBK_mono {neg : Bool} {x y : EV} {k k' : Bool → Prop} (h : ∀ v, k v → k' v) (q : isBK neg x y k) : isBK neg x y k' := by
  unfold isBK at q ⊢
  split at q
  · split at q <;> exact h _ q
  · exact q
theorem zpK_mono {r : List EV} {st : Sto} {k k' : List D → Sto → Prop} (h : ∀ v s, k v s → k' v s) (q : zpK r st k) : zpK r st k' := by
  unfold zpK at q ⊢
  split at q <;> first | exact h _ _ q | exact q.elim
theorem idxK_mono {x y : EV} {k k' : EV → Prop} (h : ∀ v, k v → k' v) (q : idxK x y k) : idxK x y k' := by
  unfold idxK at q ⊢
  split at q
  · obtain ⟨ns, a, q⟩ := q
    exact ⟨ns, a, fun j u v => h _ (q j u v)⟩
  · exact q.elim
theorem dgetK_mono {ks : List (Str × D)} {x y : EV} {k k' : EV → Prop} (h : ∀ v, k v → k' v) (q : dgetK ks x y k) : dgetK ks x y k' := by
  unfold dgetK at q ⊢
  split at q
  · split at q <;> exact h _ q
  · exact q.elim
theorem dixK_mono {ks : List (Str × D)} {x : EV} {k k' : EV → Prop} (h : ∀ v, k v → k' v) (q : dixK ks x k) : dixK ks x k' := by
  unfold dixK at q ⊢
  split at q
  · split at q
    · exact h _ q
    · exact q.elim
  · exact q.elim
structure SE.Mono (s : SE) : Prop where
  e : ∀ env st k k', (∀ v s, k v s → k' v s) → s.e env st k → s.e env st k'
  t : ∀ env st k k', (∀ v s, k v s → k' v s) → s.t env st k → s.t env st k'
  l : ∀ env st k k', (∀ v s, k v s → k' v s) → s.l env st k → s.l env st k'
  i : ∀ env st k k', (∀ v s, k v s → k' v s) → s.i env st k → s.i env st k'
  a : ∀ ev env k k', (∀ e, k e → k' e) → s.a ev env k → s.a ev env k'
  al : ∀ xs env k k', (∀ e, k e → k' e) → s.al xs env k → s.al xs env k'
  o : ∀ env st k k', (∀ v s, k v s → k' v s) → s.o env st k → s.o env st k'
abbrev MonoE (f : En → Sto → KE → Prop) : Prop := ∀ env st k k', (∀ v s, k v s → k' v s) → f env st k → f env st k'
theorem ofE_mono {f : En → Sto → KE → Prop} (h : MonoE f) : (ofE f).Mono where
  e := h
  t := fun env st k k' q => h env st _ _ fun v s => truE_mono fun b => q b s
  l := fun _ _ _ _ _ z => z.elim
  i := fun env st k k' q => h env st _ _ fun v s z => by
    split at z <;> first | exact q _ _ z | exact z.elim
  a := fun _ _ _ _ _ z => z.elim
  al := fun _ _ _ _ _ z => z.elim
  o := fun env st k k' q => h env st _ _ fun v s z => by
    split at z <;> first | exact q _ _ z | exact z.elim
theorem ofB_mono {f : En → Sto → (Bool → Sto → Prop) → Prop} (h : ∀ env st k k', (∀ v s, k v s → k' v s) → f env st k → f env st k') : (ofB f).Mono where
  e := fun env st k k' q => h env st _ _ fun b s => q _ s
  t := h
  l := fun _ _ _ _ _ z => z.elim
  i := fun _ _ _ _ _ z => z.elim
  a := fun _ _ _ _ _ z => z.elim
  al := fun _ _ _ _ _ z => z.elim
  o := fun _ _ _ _ _ z => z.elim
theorem ofI_mono {f : En → Sto → (List D → Sto → Prop) → Prop} (h : ∀ env st k k', (∀ v s, k v s → k' v s) → f env st k → f env st k') : (ofI f).Mono where
  e := fun _ _ _ _ _ z => z.elim
  t := fun _ _ _ _ _ z => z.elim
  l := fun _ _ _ _ _ z => z.elim
  i := h
  a := fun _ _ _ _ _ z => z.elim
  al := fun _ _ _ _ _ z => z.elim
  o := fun _ _ _ _ _ z => z.elim
theorem lopK_mono {kd : Nat} {o : BOp} {x y : EV} {st : Sto} {k k' : KE} (h : ∀ v s, k v s → k' v s) (q : lopK kd o x y st k) : lopK kd o x y st k' := by
  unfold lopK at q ⊢
  split at q
  · exact ⟨q.1, newL_mono h q.2⟩
  · exact ⟨q.1, newL_mono h q.2⟩
  · exact q.elim
theorem srsK_mono {kd : Nat} {x : EV} {st : Sto} {k k' : KE} (h : ∀ v s, k v s → k' v s) (q : srsK kd x st k) : srsK kd x st k' := by
  unfold srsK at q ⊢
  split at q
  · obtain ⟨ts, a, b⟩ := q
    exact ⟨ts, a, fun ys z => newL_mono h (b ys z)⟩
  · obtain ⟨ts, a, b⟩ := q
    exact ⟨ts, a, fun ys z => newL_mono h (b ys z)⟩
  · exact q
theorem srlK_mono {kd : Nat} {x : EV} {st : Sto} {k k' : KE} (h : ∀ v s, k v s → k' v s) (q : srlK kd x st k) : srlK kd x st k' := by
  unfold srlK at q ⊢
  split at q
  · obtain ⟨ts, a, b⟩ := q
    exact ⟨ts, a, fun ys z => newL_mono h (b ys z)⟩
  · exact q
theorem loopC_mono {tg : EV → En → (En → Prop) → Prop} {c : En → Sto → (Bool → Sto → Prop) → Prop} {e : En → Sto → KE → Prop} {env : En}
    (ht : ∀ ev env k k', (∀ e, k e → k' e) → tg ev env k → tg ev env k') (hc : ∀ env st k k', (∀ v s, k v s → k' v s) → c env st k → c env st k') (he : MonoE e) {k k' : List D → Sto → Prop} (h : ∀ v s, k v s → k' v s) :
    ∀ (xs : List D) (st : Sto) (acc : List D), loopC tg c e env xs st acc k → loopC tg c e env xs st acc k'
  | [], st, acc, q => h _ _ q
  | x :: r, st, acc, q => ht _ _ _ _ (fun env' => hc _ _ _ _ fun b st1 z => by
      cases b with
      | true =>
        refine brT ?_; have z := brT' z
        exact he _ _ _ _ (fun ev st2 => dE_mono fun y => loopC_mono ht hc he h r st2 _) z
      | false =>
        refine brF ?_; have z := brF' z
        exact loopC_mono ht hc he h r st1 _ z) q
theorem loopC2_mono {tg tg1 : EV → En → (En → Prop) → Prop} {c c1 : En → Sto → (Bool → Sto → Prop) → Prop} {it1 : En → Sto → (List D → Sto → Prop) → Prop} {own1 : List Nat} {e : En → Sto → KE → Prop} {env : En}
    (ht : ∀ ev env k k', (∀ e, k e → k' e) → tg ev env k → tg ev env k') (hc : ∀ env st k k', (∀ v s, k v s → k' v s) → c env st k → c env st k') (hi : ∀ env st k k', (∀ v s, k v s → k' v s) → it1 env st k → it1 env st k')
    (ht1 : ∀ ev env k k', (∀ e, k e → k' e) → tg1 ev env k → tg1 ev env k') (hc1 : ∀ env st k k', (∀ v s, k v s → k' v s) → c1 env st k → c1 env st k') (he : MonoE e) {k k' : List D → Sto → Prop} (h : ∀ v s, k v s → k' v s) :
    ∀ (xs : List D) (st : Sto) (acc : List D), loopC2 tg c it1 own1 tg1 c1 e env xs st acc k → loopC2 tg c it1 own1 tg1 c1 e env xs st acc k'
  | [], st, acc, q => h _ _ q
  | x :: r, st, acc, q => ht _ _ _ _ (fun env' => hc _ _ _ _ fun b st1 z => by
      cases b with
      | true =>
        refine brT ?_; have z := brT' z
        exact hi _ _ _ _ (fun ys st2 z => ⟨z.1, loopC_mono ht1 hc1 he (fun acc2 st3 => loopC2_mono ht hc hi ht1 hc1 he h r st3 acc2) ys st2 acc z.2⟩) z
      | false =>
        refine brF ?_; have z := brF' z
        exact loopC2_mono ht hc hi ht1 hc1 he h r st1 _ z) q
theorem sem_mono {tb : Tb} (ht : tb.Mono) : ∀ ie : IE, (sem tb ie).Mono
  | .cst d => ofE_mono fun _ _ _ _ h q => h _ _ q
  | .var i => by
    have m := ofE_mono (f := fun env st k => match look env i with
      | some ev => k ev st
      | none => False) fun _ _ _ _ h q => by
      dsimp only at q ⊢
      split at q <;> first | exact h _ _ q | exact q.elim
    exact ⟨m.e, m.t, m.l, m.i, fun _ _ _ _ h q => h _ q, m.al, m.o⟩
  | .glo n => ofE_mono fun _ _ _ _ h q => by
      split at q <;> first | exact h _ _ q | exact q.elim
  | .bin o a b => ofE_mono fun env st k k' h => (sem_mono ht a).e _ _ _ _ fun x st => (sem_mono ht b).e _ _ _ _ fun y st => binK_mono fun z => h z st
  | .neg a => ofE_mono fun env st k k' h => (sem_mono ht a).e _ _ _ _ fun x st q => by
      split at q <;> first | exact h _ _ q | exact q.elim
  | .nt a => by
    have m := ofE_mono (f := fun env st k => (sem tb a).e env st fun x st => truE x st fun b => k (.d (.bool (!b))) st) fun env st k k' h => (sem_mono ht a).e _ _ _ _ fun x st => truE_mono fun b => h _ _
    exact ⟨m.e, fun env st k k' h => (sem_mono ht a).t _ _ _ _ fun b st => h _ _, m.l, m.i, m.a, m.al, m.o⟩
  | .cmp o a b => ofB_mono fun env st k k' h => (sem_mono ht a).e _ _ _ _ fun x st => (sem_mono ht b).e _ _ _ _ fun y st => cmpK_mono fun z => h z st
  | .cmp2 o p a b c => ofB_mono fun env st k k' h => (sem_mono ht a).e _ _ _ _ fun x st => (sem_mono ht b).e _ _ _ _ fun y st => cmpK_mono fun z q => by
      cases z with
      | true =>
        refine brT ?_; have q := brT' q
        exact (sem_mono ht c).e _ _ _ _ (fun w st => cmpK_mono fun z => h z st) q
      | false =>
        refine brF ?_; have q := brF' q
        exact h _ _ q
  | .isN a => ofB_mono fun env st k k' h => (sem_mono ht a).e _ _ _ _ fun x st => dE_mono fun y => h _ _
  | .notN a => ofB_mono fun env st k k' h => (sem_mono ht a).e _ _ _ _ fun x st => dE_mono fun y => h _ _
  | .an a b => by
    have m := ofE_mono (f := fun env st k => (sem tb a).e env st fun x st => match x with
      | .d (.bool c) => brP c ((sem tb b).e env st k) (k (.d (.bool false)) st)
      | _ => False) fun env st k k' h => (sem_mono ht a).e _ _ _ _ fun x st q => by
      split at q <;> first | exact ⟨fun z => (sem_mono ht b).e _ _ _ _ h (q.1 z), fun z => h _ _ (q.2 z)⟩ | exact q.elim
    refine ⟨m.e, fun env st k k' h => (sem_mono ht a).t _ _ _ _ fun x st q => ?_, m.l, m.i, m.a, m.al, m.o⟩
    cases x with
    | true =>
      refine brT ?_; have q := brT' q
      exact (sem_mono ht b).t _ _ _ _ h q
    | false =>
      refine brF ?_; have q := brF' q
      exact h _ _ q
  | .oo a b => by
    have m := ofE_mono (f := fun env st k => (sem tb a).e env st fun x st => match x with
      | .d (.bool c) => brP c (k (.d (.bool true)) st) ((sem tb b).e env st k)
      | _ => False) fun env st k k' h => (sem_mono ht a).e _ _ _ _ fun x st q => by
      split at q <;> first | exact ⟨fun z => h _ _ (q.1 z), fun z => (sem_mono ht b).e _ _ _ _ h (q.2 z)⟩ | exact q.elim
    refine ⟨m.e, fun env st k k' h => (sem_mono ht a).t _ _ _ _ fun x st q => ?_, m.l, m.i, m.a, m.al, m.o⟩
    cases x with
    | true =>
      refine brT ?_; have q := brT' q
      exact h _ _ q
    | false =>
      refine brF ?_; have q := brF' q
      exact (sem_mono ht b).t _ _ _ _ h q
  | .ife c a b => ofE_mono fun env st k k' h => (sem_mono ht c).t _ _ _ _ fun x st q => by
      cases x with
      | true =>
        refine brT ?_; have q := brT' q
        exact (sem_mono ht a).e _ _ _ _ h q
      | false =>
        refine brF ?_; have q := brF' q
        exact (sem_mono ht b).e _ _ _ _ h q
  | .nil => ⟨fun _ _ _ _ _ z => z.elim, fun _ _ _ _ h q => h _ _ q, fun _ _ _ _ h q => h _ _ q, fun _ _ _ _ _ z => z.elim, fun _ _ _ _ _ z => z.elim, fun _ _ _ _ h q => ⟨q.1, h _ q.2⟩, fun _ _ _ _ h q => h _ _ q⟩
  | .cons a r => ⟨fun _ _ _ _ _ z => z.elim, fun _ _ _ _ _ z => z.elim, fun env st k k' h => (sem_mono ht a).e _ _ _ _ fun x st => (sem_mono ht r).l _ _ _ _ fun xs st => h _ _, fun _ _ _ _ _ z => z.elim, fun _ _ _ _ _ z => z.elim,
      fun xs env k k' h q => by
        cases xs with
        | nil => exact q.elim
        | cons x xs => exact (sem_mono ht a).a _ _ _ _ (fun env => (sem_mono ht r).al _ _ _ _ h) q,
      fun _ _ _ _ _ z => z.elim⟩
  | .tup r => by
    have m := ofE_mono (f := fun env st k => (sem tb r).l env st fun xs st => allD xs fun ys => k (.d (.tuple ys)) st) fun env st k k' h => (sem_mono ht r).l _ _ _ _ fun xs st => allD_mono fun ys => h _ _
    refine ⟨m.e, m.t, m.l, m.i, fun ev env k k' h q => ?_, m.al, m.o⟩
    dsimp only [sem] at q ⊢
    split at q <;> first | exact (sem_mono ht r).al _ _ _ _ h q | exact q.elim
  | .lst kd r => ofE_mono fun env st k k' h => (sem_mono ht r).l _ _ _ _ fun xs st => allD_mono fun ys => newL_mono h
  | .ixc a n => ofE_mono fun env st k k' h => (sem_mono ht a).e _ _ _ _ fun x st => seqE_mono fun b xs q => by
      split at q <;> first | exact h _ _ q | exact q.elim
  | .ix a i => ofE_mono fun env st k k' h => (sem_mono ht a).e _ _ _ _ fun x st => (sem_mono ht i).e _ _ _ _ fun j st q => by
      split at q <;> first
        | exact seqE_mono (fun b xs q => by
            split at q <;> first | exact h _ _ q | exact q.elim) q
        | exact q.elim
  | .sl kd a lo hi => ofE_mono fun env st k k' h => (sem_mono ht a).e _ _ _ _ fun x st => (sem_mono ht lo).o _ _ _ _ fun l st => (sem_mono ht hi).o _ _ _ _ fun u st q => by
      split at q <;> first | exact h _ _ q | exact ⟨q.1, h _ _ q.2⟩ | exact seqE_mono (fun b xs => newL_mono h) q
  | .call n r => ofE_mono fun env st k k' h => (sem_mono ht r).l _ _ _ _ fun xs st => argsK_mono (ht n _ _ _ _ fun v g => h _ _)
  | .blt b kd r => ofE_mono fun env st k k' h => (sem_mono ht r).l _ _ _ _ fun xs st => bltK_mono h
  | .cmpr kd own tg it c e => ofE_mono fun env st k k' h => (sem_mono ht it).i _ _ _ _ fun xs st q => ⟨q.1, loopC_mono (sem_mono ht tg).a (sem_mono ht c).t (sem_mono ht e).e (fun ys st => newL_mono h) xs st [] q.2⟩
  | .rng r => ofI_mono fun env st k k' h => (sem_mono ht r).l _ _ _ _ fun xs st => rngK_mono h
  | .enm r => ofI_mono fun env st k k' h => (sem_mono ht r).l _ _ _ _ fun xs st => enmK_mono h
  | .zp r => ofI_mono fun env st k k' h => (sem_mono ht r).l _ _ _ _ fun xs st => zpK_mono h
  | .isi a t => ofB_mono fun env st k k' h => (sem_mono ht a).e _ _ _ _ fun x st => dE_mono fun y => h _ _
  | .scons a r => ⟨fun _ _ _ _ _ z => z.elim, fun _ _ _ _ _ z => z.elim, fun env st k k' h => (sem_mono ht a).e _ _ _ _ fun x st => seqE_mono fun _ ds => (sem_mono ht r).l _ _ _ _ fun xs st => h _ _, fun _ _ _ _ _ z => z.elim, fun _ _ _ _ _ z => z.elim, fun _ _ _ _ _ z => z.elim, fun _ _ _ _ _ z => z.elim⟩
  | .tupS r => ofE_mono fun env st k k' h => (sem_mono ht r).l _ _ _ _ fun xs st q => ⟨q.1, allD_mono (fun ys => h _ _) q.2⟩
  | .lstS kd r => ofE_mono fun env st k k' h => (sem_mono ht r).l _ _ _ _ fun xs st q => ⟨q.1, allD_mono (fun ys => newL_mono h) q.2⟩
  | .srs kd a => ofE_mono fun env st k k' h => (sem_mono ht a).e _ _ _ _ fun x st => srsK_mono h
  | .srl kd a => ofE_mono fun env st k k' h => (sem_mono ht a).e _ _ _ _ fun x st => srlK_mono h
  | .lop kd o a b => ofE_mono fun env st k k' h => (sem_mono ht a).e _ _ _ _ fun x st => (sem_mono ht b).e _ _ _ _ fun y st => lopK_mono h
  | .idx a e => ofE_mono fun env st k k' h => (sem_mono ht a).e _ _ _ _ fun x st q => ⟨q.1, (sem_mono ht e).e _ _ _ _ (fun y st => idxK_mono fun z => h z st) q.2⟩
  | .dget ks a b => ofE_mono fun env st k k' h => (sem_mono ht a).e _ _ _ _ fun x st => (sem_mono ht b).e _ _ _ _ fun y st => dgetK_mono fun z => h z st
  | .callS n ar r => ofE_mono fun env st k k' h => (sem_mono ht r).l _ _ _ _ fun xs st q => ⟨q.1, argsK_mono (ht n _ _ _ _ fun v g => h _ _) q.2⟩
  | .cmpr2 kd own tg it c tg1 it1 c1 e => ofE_mono fun env st k k' h => (sem_mono ht it).i _ _ _ _ fun xs st => loopC2_mono (sem_mono ht tg).a (sem_mono ht c).t (sem_mono ht it1).i (sem_mono ht tg1).a (sem_mono ht c1).t (sem_mono ht e).e (fun ys st => newL_mono h) xs st []
  | .isB neg a b => ofB_mono fun env st k k' h => (sem_mono ht a).e _ _ _ _ fun x st => (sem_mono ht b).e _ _ _ _ fun y st => isBK_mono fun z => h z st
  | .sri kd a => ofE_mono fun env st k k' h => (sem_mono ht a).e _ _ _ _ fun x st => sriK_mono h
  | .ssi kd a => ofE_mono fun env st k k' h => (sem_mono ht a).e _ _ _ _ fun x st => ssiK_mono h
  | .callG n r => ofE_mono fun env st k k' h => (sem_mono ht r).l _ _ _ _ fun xs st => liftK_mono fun m es q => by
      split at q
      · exact ht n _ _ _ _ (fun v g => dE_mono fun x ⟨g0, ys', a, q⟩ => ⟨g0, ys', a, h _ _ q⟩) q
      · exact q.elim
  | .callP n dsp a r => ofE_mono fun env st k k' h => match dsp with
    | true => (sem_mono ht a).l _ _ _ _ fun evs st => (sem_mono ht r).l _ _ _ _ fun es st => contL_mono fun ds => contL_mono fun ds2 => ht n _ _ _ _ fun v _ => atomK_mono fun x => h x st
    | false => (sem_mono ht a).e _ _ _ _ fun ev st => (sem_mono ht r).l _ _ _ _ fun es st => contL_mono fun ds => contL_mono fun ds2 => ht n _ _ _ _ fun v _ => atomK_mono fun x => h x st
  | .srd kd a => ofE_mono fun env st k k' h => (sem_mono ht a).e _ _ _ _ fun x st => srdK_mono h
  | .rev kd a => ofE_mono fun env st k k' h => (sem_mono ht a).e _ _ _ _ fun x st => revK_mono h
  | .rgv tp kd a => ofE_mono fun env st k k' h => (sem_mono ht a).e _ _ _ _ fun x st => rgvK_mono h
  | .dix ks r a => ofE_mono fun env st k k' h => (sem_mono ht r).l _ _ _ _ fun xs st => allD_mono fun ds q => ⟨q.1, (sem_mono ht a).e _ _ _ _ (fun x st => dixK_mono fun z => h z st) q.2⟩
structure KS.Le (K K' : KS) : Prop where
  nx : ∀ e s, K.nx e s → K'.nx e s
  rt : ∀ e s, K.rt e s → K'.rt e s
  bk : ∀ e s, K.bk e s → K'.bk e s
  ct : ∀ e s, K.ct e s → K'.ct e s
theorem setS_mono {ev : EV} {st : Sto} {f : List D → (List D → Prop) → Prop} {k k' : Sto → Prop} (hf : ∀ xs k k', (∀ ys, k ys → k' ys) → f xs k → f xs k') (h : ∀ s, k s → k' s) (q : setS ev st f k) : setS ev st f k' := by
  unfold setS at q ⊢
  split at q <;> first | (split at q <;> first | exact hf _ _ _ (fun ys => h _) q | exact q.elim) | exact q.elim
theorem augK_mono {o : BOp} {x y : EV} {k k' : EV → Prop} (h : ∀ z, k z → k' z) (q : augK o x y k) : augK o x y k' := ⟨q.1, q.2.1, binK_mono h q.2.2⟩
theorem ixK_mono {j : EV} {n : Nat} {k k' : Nat → Prop} (h : ∀ m, k m → k' m) (q : ixK j n k) : ixK j n k' := by
  unfold ixK at q ⊢
  split at q <;> first | (split at q <;> first | exact h _ q | exact q.elim) | exact q.elim
theorem loopF_mono {tg : EV → En → (En → Prop) → Prop} {b : En → Sto → KS → Prop} (ht : ∀ ev env k k', (∀ e, k e → k' e) → tg ev env k → tg ev env k') (hb : ∀ env st K K', K.Le K' → b env st K → b env st K') {K K' : KS} (h : K.Le K') :
    ∀ (xs : List D) (env : En) (st : Sto), loopF tg b xs env st K → loopF tg b xs env st K'
  | [], env, st, q => h.nx _ _ q
  | x :: r, env, st, q => ht _ _ _ _ (fun env' => hb _ _ { nx := fun e s => loopF tg b r e s K, rt := K.rt, bk := K.nx, ct := fun e s => loopF tg b r e s K } { nx := fun e s => loopF tg b r e s K', rt := K'.rt, bk := K'.nx, ct := fun e s => loopF tg b r e s K' } ⟨fun e s => loopF_mono ht hb h r e s, h.rt, h.nx, fun e s => loopF_mono ht hb h r e s⟩) q
theorem puts_mono : ∀ {is : List Nat} {es : List EV} {env : En} {k k' : En → Prop}, (∀ e, k e → k' e) → puts env is es k → puts env is es k'
  | [], [], _, _, _, h, q => h _ q
  | [], _ :: _, _, _, _, _, q => q.elim
  | _ :: _, [], _, _, _, _, q => q.elim
  | i :: is, e :: es, env, _, _, h, q => puts_mono (is := is) (es := es) h q
theorem semS_mono {tb : Tb} (ht : tb.Mono) : ∀ (b : IS) (env : En) (st : Sto) (K K' : KS), K.Le K' → semS tb b env st K → semS tb b env st K'
  | .skip, env, st, K, K', h, q => h.nx _ _ q
  | .seq a b, env, st, K, K', h, q => semS_mono ht a env st { K with nx := fun env st => semS tb b env st K } { K' with nx := fun env st => semS tb b env st K' } ⟨fun e s => semS_mono ht b e s K K' h, h.rt, h.bk, h.ct⟩ q
  | .asg t e, env, st, K, K', h, q => (sem_mono ht e).e _ _ _ _ (fun ev st => (sem_mono ht t).a _ _ _ _ fun env => h.nx _ _) q
  | .aug o i e, env, st, K, K', h, q => by
    unfold semS at q ⊢
    split at q
    · exact (sem_mono ht e).e _ _ _ _ (fun y st => augK_mono fun z => h.nx _ _) q
    · exact q.elim
  | .augS o a i e, env, st, K, K', h, q => (sem_mono ht a).e _ _ _ _ (fun x st => (sem_mono ht i).e _ _ _ _ fun j st => seqE_mono fun b xs q => ⟨q.1, ixK_mono (fun m q => by
      split at q
      · exact (sem_mono ht e).e _ _ _ _ (fun y st => augK_mono fun z => dE_mono fun w => setS_mono (fun xs k k' h => ixK_mono fun m => h _) fun st => h.nx _ _) q
      · exact q.elim) q.2⟩) q
  | .setI a i e, env, st, K, K', h, q => (sem_mono ht e).e _ _ _ _ (fun y st => (sem_mono ht a).e _ _ _ _ fun x st => (sem_mono ht i).e _ _ _ _ fun j st => dE_mono fun w => setS_mono (fun xs k k' h => ixK_mono fun m => h _) fun st => h.nx _ _) q
  | .app a e, env, st, K, K', h, q => (sem_mono ht a).e _ _ _ _ (fun x st q => ⟨q.1, (sem_mono ht e).e _ _ _ _ (fun y st => dE_mono fun w => setS_mono (fun xs k k' h q => ⟨q.1, h _ q.2⟩) fun st => h.nx _ _) q.2⟩) q
  | .ext a e, env, st, K, K', h, q => (sem_mono ht a).e _ _ _ _ (fun x st q => ⟨q.1, (sem_mono ht e).e _ _ _ _ (fun y st q => by
      split at q
      · exact setS_mono (fun xs k k' h q => ⟨q.1, h _ q.2⟩) (fun st => h.nx _ _) q
      · exact setS_mono (fun xs k k' h q => ⟨q.1, h _ q.2⟩) (fun st => h.nx _ _) q
      · exact q.elim) q.2⟩) q
  | .ins a i e, env, st, K, K', h, q => (sem_mono ht a).e _ _ _ _ (fun x st q => ⟨q.1, (sem_mono ht i).e _ _ _ _ (fun j st => (sem_mono ht e).e _ _ _ _ fun y st => dE_mono fun w q => by
      split at q
      · exact ⟨q.1, setS_mono (fun xs k k' h q => ⟨q.1, h _ q.2⟩) (fun st => h.nx _ _) q.2⟩
      · exact q.elim) q.2⟩) q
  | .clr a, env, st, K, K', h, q => (sem_mono ht a).e _ _ _ _ (fun x st q => ⟨q.1, setS_mono (fun xs k k' h q => h _ q) (fun st => h.nx _ _) q.2⟩) q
  | .exp e, env, st, K, K', h, q => (sem_mono ht e).e _ _ _ _ (fun _ st => h.nx _ _) q
  | .ifs c a b, env, st, K, K', h, q => (sem_mono ht c).t _ _ _ _ (fun x st q => by
      cases x with
      | true =>
        refine brT ?_; have q := brT' q
        exact semS_mono ht a _ _ _ _ h q
      | false =>
        refine brF ?_; have q := brF' q
        exact semS_mono ht b _ _ _ _ h q) q
  | .whl c b, env, st, K, K', h, q => by
    unfold semS whlK at q ⊢
    obtain ⟨I, h0, hs⟩ := q
    refine ⟨I, h0, fun m env st hI => (sem_mono ht c).t _ _ _ _ (fun x st q => ?_) (hs m env st hI)⟩
    cases x with
    | true =>
      refine brT ?_; have q := brT' q
      exact semS_mono ht b _ _ { nx := fun e s => ∃ m', m' < m ∧ I m' e s, rt := K.rt, bk := K.nx, ct := fun e s => ∃ m', m' < m ∧ I m' e s } _ ⟨fun _ _ z => z, h.rt, h.nx, fun _ _ z => z⟩ q
    | false =>
      refine brF ?_; have q := brF' q
      exact h.nx _ _ q
  | .fr t it b, env, st, K, K', h, q => (sem_mono ht it).i _ _ _ _ (fun xs st => loopF_mono (sem_mono ht t).a (fun env st K K' h => semS_mono ht b env st K K' h) h xs env st) q
  | .ret e, env, st, K, K', h, q => (sem_mono ht e).e _ _ _ _ h.rt q
  | .ret0, env, st, K, K', h, q => h.rt _ _ q
  | .brk, env, st, K, K', h, q => h.bk _ _ q
  | .cont, env, st, K, K', h, q => h.ct _ _ q
  | .never, _, _, _, _, _, q => q.elim
  | .par is r, env, st, K, K', h, q => (sem_mono ht r).l _ _ _ _ (fun evs st => puts_mono fun env => h.nx _ _) q
  | .freeze i, env, st, K, K', h, q => by
    unfold semS at q ⊢
    split at q <;> first | (split at q <;> first | exact h.nx _ _ q | exact q.elim) | exact q.elim
theorem outE_mono {ev : EV} {st : Sto} {k k' : EV → Prop} (h : ∀ v, k v → k' v) (q : outE ev st k) : outE ev st k' := by
  unfold outE at q ⊢
  split at q <;> first | exact h _ q | (split at q <;> first | exact h _ q | exact q.elim) | exact q.elim
theorem semF_mono {tb : Tb} (ht : tb.Mono) (n : Nat) (b : IS) : SemMono (semF tb n b) := fun vs g Q Q' h q =>
  semS_mono ht b _ _ { nx := fun _ st => Q (.d .none) st.g, rt := fun ev st => outE ev st fun v => Q v st.g, bk := fun _ _ => False, ct := fun _ _ => False } { nx := fun _ st => Q' (.d .none) st.g, rt := fun ev st => outE ev st fun v => Q' v st.g, bk := fun _ _ => False, ct := fun _ _ => False }
    ⟨fun _ st => h _ _, fun ev st => outE_mono fun v => h v _, fun _ _ z => z, fun _ _ z => z⟩ q
/-- a table of monotone meanings -/
theorem Tb.mono_of {tb : Tb} (h : ∀ q ∈ tb.fn, SemMono q.2.2) : tb.Mono := fun k => by
  unfold Tb.sem
  split
  · rename_i q e
    exact h q (List.mem_of_getElem? e)
  · exact fun _ _ _ _ _ z => z.elim
end VI

/-! VI3: how data and lists that may change stand in the abstract heap. -/
namespace VI
open PySem PySem.Spec PyProof.Rows L2
def KL (K : PySem.W.Frag) (a : Addr) (xs : List V) : Prop := ∃ (o : Obj) (its : Array Value) (n : Nat), K.lookup a = some o ∧ o.cls = .type "list" ∧ o.dict = none ∧ o.data = .seq its n ∧ its.size ≤ sizeLine ∧ Vals xs its.toList
def KT (K : PySem.W.Frag) (a : Addr) (xs : List V) : Prop := ∃ (o : Obj) (its : Array Value) (n : Nat), K.lookup a = some o ∧ o.cls = .type "tuple" ∧ o.data = .seq its n ∧ its.size ≤ sizeLine ∧ Vals xs its.toList
def FzL (K : PySem.W.Frag) (H : Hp) (M : Addr → Prop) (a : Addr) (xs : List V) : Prop := (Rd H a (.lst xs) ∧ ¬ M a) ∨ KL K a xs
def FzT (K : PySem.W.Frag) (H : Hp) (M : Addr → Prop) (a : Addr) (xs : List V) : Prop := (Rd H a (.tup xs) ∧ ¬ M a) ∨ KT K a xs
theorem FzL.sq {K : PySem.W.Frag} {H : Hp} {M : Addr → Prop} {a : Addr} {xs : List V} (h : FzL K H M a xs) : SqL K H a xs := h.elim (fun z => .inl z.1) .inr
theorem FzT.sq {K : PySem.W.Frag} {H : Hp} {M : Addr → Prop} {a : Addr} {xs : List V} (h : FzT K H M a xs) : SqT K H a xs := h.elim (fun z => .inl z.1) .inr
mutual
inductive Rep (K : PySem.W.Frag) (H : Hp) (M : Addr → Prop) : V → D → Prop
  | non : Rep K H M .non .none
  | bl (b : Bool) : Rep K H M (.bl b) (.bool b)
  | int (i : Int) : Rep K H M (.int i) (.int i)
  | str (x : Str) : Rep K H M (.str x) (.str x)
  | lst {a : Addr} {xs : List V} {ds : List D} : H a = some (.lst xs) → ¬ M a → Reps K H M xs ds → Rep K H M (.ref a) (.list ds)
  | tup {a : Addr} {xs : List V} {ds : List D} : FzT K H M a xs → Reps K H M xs ds → Rep K H M (.ref a) (.tuple ds)
inductive Reps (K : PySem.W.Frag) (H : Hp) (M : Addr → Prop) : List V → List D → Prop
  | nil : Reps K H M [] []
  | cons {v : V} {vs : List V} {d : D} {ds : List D} : Rep K H M v d → Reps K H M vs ds → Reps K H M (v :: vs) (d :: ds)
end
mutual
theorem Rep.conv {K : PySem.W.Frag} {H H' : Hp} {M M' : Addr → Prop} (c : ∀ a o, H a = some o → ¬ M a → H' a = some o ∧ ¬ M' a) : ∀ {v : V} {d : D}, Rep K H M v d → Rep K H' M' v d
  | _, _, .non => .non
  | _, _, .bl b => .bl b
  | _, _, .int i => .int i
  | _, _, .str x => .str x
  | _, _, .lst z m r => .lst (c _ _ z m).1 (c _ _ z m).2 (Reps.conv c r)
  | _, _, .tup f r => .tup (f.elim (fun ⟨z, m⟩ => .inl ⟨z.elim (fun z => .inl (c _ _ z m).1) fun ⟨o, z⟩ => .inr ⟨o, (c _ _ z m).1⟩, z.elim (fun z => (c _ _ z m).2) fun ⟨o, z⟩ => (c _ _ z m).2⟩) .inr) (Reps.conv c r)
theorem Reps.conv {K : PySem.W.Frag} {H H' : Hp} {M M' : Addr → Prop} (c : ∀ a o, H a = some o → ¬ M a → H' a = some o ∧ ¬ M' a) : ∀ {vs : List V} {ds : List D}, Reps K H M vs ds → Reps K H' M' vs ds
  | _, _, .nil => .nil
  | _, _, .cons r t => .cons (Rep.conv c r) (Reps.conv c t)
end
mutual
theorem Rep.dp {K : PySem.W.Frag} {H : Hp} {M : Addr → Prop} : ∀ {v : V} {d : D}, Rep K H M v d → Dp K H v d
  | _, _, .non => .non
  | _, _, .bl b => .bl b
  | _, _, .int i => .int i
  | _, _, .str x => .str x
  | _, _, .lst f _ r => .lst (SqL.of f) (Reps.dp r)
  | _, _, .tup f r => .tup f.sq (Reps.dp r)
theorem Reps.dp {K : PySem.W.Frag} {H : Hp} {M : Addr → Prop} : ∀ {vs : List V} {ds : List D}, Reps K H M vs ds → DpAll K H vs ds
  | _, _, .nil => .nil
  | _, _, .cons r t => .cons (Rep.dp r) (Reps.dp t)
end
section
variable {K : PySem.W.Frag} {H : Hp} {M : Addr → Prop}
theorem Reps.length : ∀ {vs : List V} {ds : List D}, Reps K H M vs ds → vs.length = ds.length
  | _, _, .nil => rfl
  | _, _, .cons _ t => by rw [List.length_cons, List.length_cons, Reps.length t]
theorem Reps.get : ∀ {vs : List V} {ds : List D} {i : Nat} {d : D}, Reps K H M vs ds → ds[i]? = some d → ∃ v, vs[i]? = some v ∧ Rep K H M v d
  | _, _, _, _, .nil, e => by simp at e
  | _, _, 0, _, .cons r _, e => by simp at e; subst e; exact ⟨_, rfl, r⟩
  | _, _, i + 1, _, .cons _ t, e => by
    obtain ⟨v, h1, h2⟩ := Reps.get (i := i) t (by simpa using e)
    exact ⟨v, by simpa using h1, h2⟩
theorem Reps.get' {vs : List V} {ds : List D} {i : Nat} {v : V} (r : Reps K H M vs ds) (e : vs[i]? = some v) : ∃ d, ds[i]? = some d ∧ Rep K H M v d := by
  have hi : i < vs.length := (List.getElem?_eq_some_iff.mp e).1
  have hd : ds[i]? = some (ds[i]'(by rw [← r.length]; exact hi)) := List.getElem?_eq_getElem _
  obtain ⟨w, h1, h2⟩ := r.get hd
  rw [e] at h1
  cases h1
  exact ⟨_, hd, h2⟩
theorem Reps.set {v : V} {d : D} (q : Rep K H M v d) : ∀ {vs : List V} {ds : List D} (i : Nat), Reps K H M vs ds → Reps K H M (vs.set i v) (ds.set i d)
  | _, _, _, .nil => .nil
  | _, _, 0, .cons _ t => .cons q t
  | _, _, i + 1, .cons r t => .cons r (Reps.set q i t)
theorem Reps.append : ∀ {vs ws : List V} {ds es : List D}, Reps K H M vs ds → Reps K H M ws es → Reps K H M (vs ++ ws) (ds ++ es)
  | _, _, _, _, .nil, s => s
  | _, _, _, _, .cons r t, s => .cons r (Reps.append t s)
theorem Reps.drop : ∀ {vs : List V} {ds : List D} (n : Nat), Reps K H M vs ds → Reps K H M (vs.drop n) (ds.drop n)
  | _, _, 0, r => r
  | _, _, _ + 1, .nil => .nil
  | _, _, n + 1, .cons _ t => Reps.drop n t
theorem Reps.take : ∀ {vs : List V} {ds : List D} (n : Nat), Reps K H M vs ds → Reps K H M (vs.take n) (ds.take n)
  | _, _, 0, _ => .nil
  | _, _, _ + 1, .nil => .nil
  | _, _, n + 1, .cons r t => .cons r (Reps.take n t)
theorem Reps.cut {vs : List V} {ds : List D} (r : Reps K H M vs ds) (lo hi : Option Int) : Reps K H M (cutV vs lo hi) (cutD ds lo hi) := by
  unfold cutV cutD
  rw [r.length]
  exact (r.drop _).take _
theorem Reps.rep {vs : List V} {ds : List D} (r : Reps K H M vs ds) : ∀ n : Nat, Reps K H M (List.replicate n vs).flatten (List.replicate n ds).flatten
  | 0 => .nil
  | n + 1 => by
    rw [List.replicate_succ, List.replicate_succ, List.flatten_cons, List.flatten_cons]
    exact r.append (Reps.rep r n)
theorem Reps.of_get {vs : List V} {ds : List D} (hl : vs.length = ds.length) (h : ∀ (i : Nat) v d, vs[i]? = some v → ds[i]? = some d → Rep K H M v d) : Reps K H M vs ds := by
  induction vs generalizing ds with
  | nil =>
    cases ds with
    | nil => exact .nil
    | cons _ _ => simp at hl
  | cons v vs ih =>
    cases ds with
    | nil => simp at hl
    | cons d ds => exact .cons (h 0 v d rfl rfl) (ih (by simpa using hl) fun i w e h1 h2 => h (i + 1) w e (by simpa using h1) (by simpa using h2))
end
/-! ### the world -/
structure Wd where
  mu : List Addr
  la : List Addr
  F : Addr → Prop
def Wd.M (w : Wd) (st : Sto) (a : Addr) : Prop := a ∈ w.mu ∨ (∃ (n : Nat) (xs : List D), w.la[n]? = some a ∧ st.l[n]? = some (some xs)) ∨ w.F a
structure WOk (K : PySem.W.Frag) (H : Hp) (w : Wd) (st : Sto) : Prop where
  lg : w.mu.length = st.g.length
  ll : w.la.length = st.l.length
  g : ∀ (n : Nat) (xs : List D), st.g[n]? = some xs → ∃ a vs, w.mu[n]? = some a ∧ H a = some (.lst vs) ∧ Reps K H (w.M st) vs xs
  l : ∀ (n : Nat) (xs : List D), st.l[n]? = some (some xs) → ∃ a vs, w.la[n]? = some a ∧ H a = some (.lst vs) ∧ Reps K H (w.M st) vs xs
  fz : ∀ (n : Nat) (a : Addr), st.l[n]? = some none → w.la[n]? = some a → ∃ o, H a = some (.lst o)
  nd : (w.mu ++ w.la).Nodup
  fF : ∀ a, w.F a → (∃ o, H a = some o) ∧ a ∉ w.mu ∧ a ∉ w.la
structure Le (H : Hp) (w : Wd) (st : Sto) (H' : Hp) (w' : Wd) (st' : Sto) : Prop where
  F : w'.F = w.F
  mu : ∃ t, w'.mu = w.mu ++ t
  la : ∃ t, w'.la = w.la ++ t
  fr : ∀ a o, H a = some o → ¬ w.M st a → H' a = some o ∧ ¬ w'.M st' a
  fo : ∀ a, w.F a → H' a = H a
def EVRep (K : PySem.W.Frag) (H : Hp) (w : Wd) (st : Sto) (v : V) : EV → Prop
  | .d x => Rep K H (w.M st) v x
  | .lm n => ∃ a, v = .ref a ∧ w.la[n]? = some a
  | .gm n => ∃ a, v = .ref a ∧ w.mu[n]? = some a
  | .sc ds => ∃ a xs, v = .ref a ∧ FzL K H (w.M st) a xs ∧ Reps K H (w.M st) xs ds
inductive EVReps (K : PySem.W.Frag) (H : Hp) (w : Wd) (st : Sto) : List V → List EV → Prop
  | nil : EVReps K H w st [] []
  | cons {v : V} {vs : List V} {d : EV} {ds : List EV} : EVRep K H w st v d → EVReps K H w st vs ds → EVReps K H w st (v :: vs) (d :: ds)
def EnvRep (K : PySem.W.Frag) (H : Hp) (w : Wd) (st : Sto) (σ : L2.St) (env : En) : Prop := env.length = σ.length ∧ ∀ (i : Nat) (ev : EV), env[i]? = some (some ev) → ∃ v, σ[i]? = some (some v) ∧ EVRep K H w st v ev
theorem pre_get {α : Type} {l l' : List α} {n : Nat} {a : α} (h : ∃ t, l' = l ++ t) (e : l[n]? = some a) : l'[n]? = some a := by
  obtain ⟨t, rfl⟩ := h
  have hi : n < l.length := (List.getElem?_eq_some_iff.mp e).1
  rw [List.getElem?_append_left hi]
  exact e
section
variable {K : PySem.W.Frag} {H H1 H2 : Hp} {w w1 w2 : Wd} {st st1 st2 : Sto}
theorem Le.refl : Le H w st H w st := ⟨rfl, ⟨[], by simp⟩, ⟨[], by simp⟩, fun _ _ h m => ⟨h, m⟩, fun _ _ => rfl⟩
theorem Le.trans (a : Le H w st H1 w1 st1) (b : Le H1 w1 st1 H2 w2 st2) : Le H w st H2 w2 st2 where
  F := b.F.trans a.F
  mu := by
    obtain ⟨t, e⟩ := a.mu
    obtain ⟨u, e'⟩ := b.mu
    exact ⟨t ++ u, by rw [e', e, List.append_assoc]⟩
  la := by
    obtain ⟨t, e⟩ := a.la
    obtain ⟨u, e'⟩ := b.la
    exact ⟨t ++ u, by rw [e', e, List.append_assoc]⟩
  fr := fun c o h m => let z := a.fr c o h m; b.fr c o z.1 z.2
  fo := fun c h => (b.fo c (by rw [a.F]; exact h)).trans (a.fo c h)
theorem Rep.le {v : V} {d : D} (r : Rep K H (w.M st) v d) (l : Le H w st H1 w1 st1) : Rep K H1 (w1.M st1) v d := r.conv l.fr
theorem Reps.le {v : List V} {d : List D} (r : Reps K H (w.M st) v d) (l : Le H w st H1 w1 st1) : Reps K H1 (w1.M st1) v d := r.conv l.fr
theorem FzL.conv {K : PySem.W.Frag} {H H' : Hp} {M M' : Addr → Prop} (c : ∀ a o, H a = some o → ¬ M a → H' a = some o ∧ ¬ M' a) {a : Addr} {xs : List V} (f : FzL K H M a xs) : FzL K H' M' a xs :=
  f.elim (fun ⟨z, m⟩ => .inl ⟨z.elim (fun z => .inl (c _ _ z m).1) fun ⟨o, z⟩ => .inr ⟨o, (c _ _ z m).1⟩, z.elim (fun z => (c _ _ z m).2) fun ⟨o, z⟩ => (c _ _ z m).2⟩) .inr
theorem EVRep.le {v : V} {ev : EV} (r : EVRep K H w st v ev) (l : Le H w st H1 w1 st1) : EVRep K H1 w1 st1 v ev := by
  cases ev with
  | d x => exact Rep.le r l
  | lm n =>
    obtain ⟨a, e, h⟩ := r
    exact ⟨a, e, pre_get l.la h⟩
  | gm n =>
    obtain ⟨a, e, h⟩ := r
    exact ⟨a, e, pre_get l.mu h⟩
  | sc ds =>
    obtain ⟨a, xs, e, f, q⟩ := r
    exact ⟨a, xs, e, f.conv l.fr, Reps.le q l⟩
theorem EVReps.le {vs : List V} {evs : List EV} (r : EVReps K H w st vs evs) (l : Le H w st H1 w1 st1) : EVReps K H1 w1 st1 vs evs := by
  induction r with
  | nil => exact .nil
  | cons a _ ih => exact .cons (EVRep.le a l) ih
theorem EnvRep.le {σ : L2.St} {env : En} (r : EnvRep K H w st σ env) (l : Le H w st H1 w1 st1) : EnvRep K H1 w1 st1 σ env :=
  ⟨r.1, fun i ev h => let ⟨v, e, q⟩ := r.2 i ev h; ⟨v, e, q.le l⟩⟩
theorem look_get : ∀ {env : En} {i : Nat} {ev : EV}, look env i = some ev → env[i]? = some (some ev)
  | [], _, _, h => by cases h
  | a :: _, 0, _, h => by
    have h' : a = some _ := h
    rw [h']; rfl
  | _ :: r, i + 1, _, h => by
    rw [List.getElem?_cons_succ]
    exact look_get (env := r) h
theorem EnvRep.look {σ : L2.St} {env : En} (r : EnvRep K H w st σ env) {i : Nat} {ev : EV} (h : look env i = some ev) : ∃ v, σ[i]? = some (some v) ∧ EVRep K H w st v ev := r.2 i ev (look_get h)
theorem put_eq : ∀ (env : En) (i : Nat) (ev : EV), put env i ev = env.set i (some ev)
  | [], _, _ => rfl
  | _ :: _, 0, _ => rfl
  | a :: r, i + 1, ev => by
    show a :: put r i ev = a :: r.set i (some ev)
    rw [put_eq r i ev]
theorem EnvRep.put {σ : L2.St} {env : En} (r : EnvRep K H w st σ env) {v : V} {ev : EV} (q : EVRep K H w st v ev) (i : Nat) : EnvRep K H w st (σ.set i (some v)) (put env i ev) := by
  rw [put_eq]
  refine ⟨by rw [List.length_set, List.length_set]; exact r.1, fun j ev' h => ?_⟩
  by_cases hj : i = j
  · subst hj
    have hi : i < env.length := by
      have := (List.getElem?_eq_some_iff.mp h).1
      rwa [List.length_set] at this
    rw [List.getElem?_set_self hi] at h
    cases h
    exact ⟨v, List.getElem?_set_self (by rw [← r.1]; exact hi), q⟩
  · rw [List.getElem?_set_ne hj] at h
    rw [List.getElem?_set_ne hj]
    exact r.2 j ev' h
theorem EnvRep.wipe {σ : L2.St} {env : En} (r : EnvRep K H w st σ env) : ∀ own : List Nat, EnvRep K H w st (L2.wipe σ own) (wipeE env own)
  | [] => r
  | v :: vs => by
    have ih := EnvRep.wipe r vs
    unfold L2.wipe wipeE
    refine ⟨by rw [List.length_set, List.length_set]; exact ih.1, fun j ev h => ?_⟩
    by_cases hj : v = j
    · subst hj
      have hi : v < (wipeE env vs).length := by
        have := (List.getElem?_eq_some_iff.mp h).1
        rwa [List.length_set] at this
      rw [List.getElem?_set_self hi] at h
      cases h
    · rw [List.getElem?_set_ne hj] at h
      rw [List.getElem?_set_ne hj]
      exact ih.2 j ev h
/-- a fresh address is none that may change -/
theorem WOk.notM (ok : WOk K H w st) {p : Addr} (n : H p = none) : ¬ w.M st p ∧ p ∉ w.mu ∧ p ∉ w.la := by
  have h1 : p ∉ w.mu := fun h => by
    obtain ⟨i, hi⟩ := List.mem_iff_getElem?.mp h
    have hl : i < st.g.length := by rw [← ok.lg]; exact (List.getElem?_eq_some_iff.mp hi).1
    obtain ⟨a, vs, e, q, _⟩ := ok.g i _ (List.getElem?_eq_getElem hl)
    rw [hi] at e
    cases e
    rw [n] at q
    cases q
  have h2 : p ∉ w.la := fun h => by
    obtain ⟨i, hi⟩ := List.mem_iff_getElem?.mp h
    have hl : i < st.l.length := by rw [← ok.ll]; exact (List.getElem?_eq_some_iff.mp hi).1
    have hs : st.l[i]? = some st.l[i] := List.getElem?_eq_getElem hl
    cases q : st.l[i] with
    | none =>
      rw [q] at hs
      obtain ⟨o, z⟩ := ok.fz i p hs hi
      rw [n] at z
      cases z
    | some xs =>
      rw [q] at hs
      obtain ⟨a, vs, e, z, _⟩ := ok.l i xs hs
      rw [hi] at e
      cases e
      rw [n] at z
      cases z
  refine ⟨fun h => ?_, h1, h2⟩
  rcases h with h | ⟨i, xs, h, _⟩ | h
  · exact h1 h
  · exact h2 (List.mem_iff_getElem?.mpr ⟨i, h⟩)
  · obtain ⟨⟨o, z⟩, _⟩ := ok.fF p h
    rw [n] at z
    cases z
theorem Le.fresh {p : Addr} {o : HO} (n : H p = none) (ok : WOk K H w st) : Le H w st (upd H p o) w st :=
  ⟨rfl, ⟨[], by simp⟩, ⟨[], by simp⟩, fun a u h m => ⟨by rw [upd_ne (ne_of_none h n)]; exact h, m⟩, fun a h => by
    obtain ⟨⟨u, z⟩, _⟩ := ok.fF a h
    rw [upd_ne (ne_of_none z n)]⟩
theorem WOk.fresh {p : Addr} {o : HO} (n : H p = none) (ok : WOk K H w st) : WOk K (upd H p o) w st := by
  have le := Le.fresh (o := o) n ok
  refine ⟨ok.lg, ok.ll, fun i xs h => ?_, fun i xs h => ?_, fun i a h e => ?_, ok.nd, fun a h => ?_⟩
  · obtain ⟨a, vs, e, z, r⟩ := ok.g i xs h
    exact ⟨a, vs, e, by rw [upd_ne (ne_of_none z n)]; exact z, r.le le⟩
  · obtain ⟨a, vs, e, z, r⟩ := ok.l i xs h
    exact ⟨a, vs, e, by rw [upd_ne (ne_of_none z n)]; exact z, r.le le⟩
  · obtain ⟨u, z⟩ := ok.fz i a h e
    exact ⟨u, by rw [upd_ne (ne_of_none z n)]; exact z⟩
  · obtain ⟨⟨u, z⟩, q⟩ := ok.fF a h
    exact ⟨⟨u, by rw [upd_ne (ne_of_none z n)]; exact z⟩, q⟩
/-- a new tuple, a new list that stays -/
theorem new_tup {p : Addr} {vs : List V} {xs : List D} (n : H p = none) (ok : WOk K H w st) (r : Reps K H (w.M st) vs xs) : Le H w st (upd H p (.tup vs)) w st ∧ WOk K (upd H p (.tup vs)) w st ∧ Rep K (upd H p (.tup vs)) (w.M st) (.ref p) (.tuple xs) :=
  ⟨Le.fresh n ok, ok.fresh n, .tup (.inl ⟨.inl upd_same, (ok.notM n).1⟩) (r.le (Le.fresh n ok))⟩
theorem new_lst0 {p : Addr} {vs : List V} {xs : List D} (n : H p = none) (ok : WOk K H w st) (r : Reps K H (w.M st) vs xs) : Le H w st (upd H p (.lst vs)) w st ∧ WOk K (upd H p (.lst vs)) w st ∧ Rep K (upd H p (.lst vs)) (w.M st) (.ref p) (.list xs) :=
  ⟨Le.fresh n ok, ok.fresh n, .lst upd_same (ok.notM n).1 (r.le (Le.fresh n ok))⟩
theorem nodup_snoc {α : Type} {l : List α} {a : α} (h : l.Nodup) (n : a ∉ l) : (l ++ [a]).Nodup := by
  rw [List.nodup_append]
  exact ⟨h, by simp, fun x hx y hy e => by
    have : y = a := by simpa using hy
    subst this; subst e
    exact n hx⟩
/-- a new list of the frame's own -/
theorem new_lm {p : Addr} {vs : List V} {xs : List D} (n : H p = none) (ok : WOk K H w st) (r : Reps K H (w.M st) vs xs) :
    Le H w st (upd H p (.lst vs)) { w with la := w.la ++ [p] } ⟨st.g, st.l ++ [some xs]⟩ ∧ WOk K (upd H p (.lst vs)) { w with la := w.la ++ [p] } ⟨st.g, st.l ++ [some xs]⟩ ∧ EVRep K (upd H p (.lst vs)) { w with la := w.la ++ [p] } ⟨st.g, st.l ++ [some xs]⟩ (.ref p) (.lm st.l.length) := by
  obtain ⟨nM, nm, nl⟩ := ok.notM n
  have hM : ∀ a, Wd.M { w with la := w.la ++ [p] } ⟨st.g, st.l ++ [some xs]⟩ a → w.M st a ∨ a = p := fun a h => by
    rcases h with h | ⟨i, ys, h, h2⟩ | h
    · exact .inl (.inl h)
    · by_cases hi : i < w.la.length
      · have h1 : w.la[i]? = some a := by
          have h' : (w.la ++ [p])[i]? = some a := h
          rwa [List.getElem?_append_left hi] at h'
        have h3 : st.l[i]? = some (some ys) := by
          have h' : (st.l ++ [some xs])[i]? = some (some ys) := h2
          rwa [List.getElem?_append_left (by rw [← ok.ll]; exact hi)] at h'
        exact .inl (.inr (.inl ⟨i, ys, h1, h3⟩))
      · have h' : (w.la ++ [p])[i]? = some a := h
        rw [List.getElem?_append_right (by omega)] at h'
        have : a ∈ [p] := List.mem_iff_getElem?.mpr ⟨_, h'⟩
        exact .inr (by simpa using this)
    · exact .inl (.inr (.inr h))
  have le : Le H w st (upd H p (.lst vs)) { w with la := w.la ++ [p] } ⟨st.g, st.l ++ [some xs]⟩ :=
    ⟨rfl, ⟨[], by simp⟩, ⟨[p], rfl⟩, fun a u h m => ⟨by rw [upd_ne (ne_of_none h n)]; exact h, fun q => (hM a q).elim m (ne_of_none h n)⟩, fun a h => by
      obtain ⟨⟨u, z⟩, _⟩ := ok.fF a h
      rw [upd_ne (ne_of_none z n)]⟩
  refine ⟨le, ⟨ok.lg, by simp [ok.ll], fun i ys h => ?_, fun i ys h => ?_, fun i a h e => ?_, ?_, fun a h => ?_⟩, ⟨p, rfl, ?_⟩⟩
  · obtain ⟨a, us, e, z, q⟩ := ok.g i ys h
    exact ⟨a, us, e, by rw [upd_ne (ne_of_none z n)]; exact z, q.le le⟩
  · by_cases hi : i < st.l.length
    · have h1 : st.l[i]? = some (some ys) := by
        have h' : (st.l ++ [some xs])[i]? = some (some ys) := h
        rwa [List.getElem?_append_left hi] at h'
      obtain ⟨a, us, e, z, q⟩ := ok.l i ys h1
      exact ⟨a, us, pre_get ⟨[p], rfl⟩ e, by rw [upd_ne (ne_of_none z n)]; exact z, q.le le⟩
    · have h' : (st.l ++ [some xs])[i]? = some (some ys) := h
      have hi2 : i = st.l.length := by
        have := (List.getElem?_eq_some_iff.mp h').1
        rw [List.length_append] at this
        simp at this
        omega
      subst hi2
      rw [List.getElem?_append_right (Nat.le_refl _)] at h'
      simp at h'
      subst h'
      refine ⟨p, vs, ?_, upd_same, r.le le⟩
      show (w.la ++ [p])[st.l.length]? = some p
      rw [List.getElem?_append_right (by rw [ok.ll]; exact Nat.le_refl _), ok.ll]
      simp
  · have h' : (st.l ++ [some xs])[i]? = some none := h
    have hi : i < st.l.length := by
      refine Classical.byContradiction fun hc => ?_
      have hi2 : i = st.l.length := by
        have := (List.getElem?_eq_some_iff.mp h').1
        rw [List.length_append] at this
        simp at this
        omega
      subst hi2
      rw [List.getElem?_append_right (Nat.le_refl _)] at h'
      simp at h'
    rw [List.getElem?_append_left hi] at h'
    have e' : (w.la ++ [p])[i]? = some a := e
    rw [List.getElem?_append_left (by rw [ok.ll]; exact hi)] at e'
    obtain ⟨u, z⟩ := ok.fz i a h' e'
    exact ⟨u, by rw [upd_ne (ne_of_none z n)]; exact z⟩
  · show (w.mu ++ (w.la ++ [p])).Nodup
    rw [← List.append_assoc]
    exact nodup_snoc ok.nd fun h => (List.mem_append.mp h).elim nm nl
  · obtain ⟨⟨u, z⟩, q1, q2⟩ := ok.fF a h
    exact ⟨⟨u, by rw [upd_ne (ne_of_none z n)]; exact z⟩, q1, fun h => (List.mem_append.mp h).elim q2 fun h => ne_of_none z n (by simpa using h)⟩
  · show (w.la ++ [p])[st.l.length]? = some p
    rw [List.getElem?_append_right (by rw [ok.ll]; exact Nat.le_refl _), ok.ll]
    simp
/-- a new list that outlives the frame -/
theorem new_gm {p : Addr} {vs : List V} {xs : List D} (n : H p = none) (ok : WOk K H w st) (r : Reps K H (w.M st) vs xs) :
    Le H w st (upd H p (.lst vs)) { w with mu := w.mu ++ [p] } ⟨st.g ++ [xs], st.l⟩ ∧ WOk K (upd H p (.lst vs)) { w with mu := w.mu ++ [p] } ⟨st.g ++ [xs], st.l⟩ ∧ EVRep K (upd H p (.lst vs)) { w with mu := w.mu ++ [p] } ⟨st.g ++ [xs], st.l⟩ (.ref p) (.gm st.g.length) := by
  obtain ⟨nM, nm, nl⟩ := ok.notM n
  have hM : ∀ a, Wd.M { w with mu := w.mu ++ [p] } ⟨st.g ++ [xs], st.l⟩ a → w.M st a ∨ a = p := fun a h => by
    rcases h with h | h | h
    · rcases List.mem_append.mp h with h | h
      · exact .inl (.inl h)
      · exact .inr (by simpa using h)
    · exact .inl (.inr (.inl h))
    · exact .inl (.inr (.inr h))
  have le : Le H w st (upd H p (.lst vs)) { w with mu := w.mu ++ [p] } ⟨st.g ++ [xs], st.l⟩ :=
    ⟨rfl, ⟨[p], rfl⟩, ⟨[], by simp⟩, fun a u h m => ⟨by rw [upd_ne (ne_of_none h n)]; exact h, fun q => (hM a q).elim m (ne_of_none h n)⟩, fun a h => by
      obtain ⟨⟨u, z⟩, _⟩ := ok.fF a h
      rw [upd_ne (ne_of_none z n)]⟩
  refine ⟨le, ⟨by simp [ok.lg], ok.ll, fun i ys h => ?_, fun i ys h => ?_, fun i a h e => ?_, ?_, fun a h => ?_⟩, ⟨p, rfl, ?_⟩⟩
  · by_cases hi : i < st.g.length
    · have h1 : st.g[i]? = some ys := by
        have h' : (st.g ++ [xs])[i]? = some ys := h
        rwa [List.getElem?_append_left hi] at h'
      obtain ⟨a, us, e, z, q⟩ := ok.g i ys h1
      exact ⟨a, us, pre_get ⟨[p], rfl⟩ e, by rw [upd_ne (ne_of_none z n)]; exact z, q.le le⟩
    · have h' : (st.g ++ [xs])[i]? = some ys := h
      have hi2 : i = st.g.length := by
        have := (List.getElem?_eq_some_iff.mp h').1
        rw [List.length_append] at this
        simp at this
        omega
      subst hi2
      rw [List.getElem?_append_right (Nat.le_refl _)] at h'
      simp at h'
      subst h'
      refine ⟨p, vs, ?_, upd_same, r.le le⟩
      show (w.mu ++ [p])[st.g.length]? = some p
      rw [List.getElem?_append_right (by rw [ok.lg]; exact Nat.le_refl _), ok.lg]
      simp
  · obtain ⟨a, us, e, z, q⟩ := ok.l i ys h
    exact ⟨a, us, e, by rw [upd_ne (ne_of_none z n)]; exact z, q.le le⟩
  · obtain ⟨u, z⟩ := ok.fz i a h e
    exact ⟨u, by rw [upd_ne (ne_of_none z n)]; exact z⟩
  · show ((w.mu ++ [p]) ++ w.la).Nodup
    rw [List.append_assoc]
    refine (List.Perm.nodup_iff (List.Perm.append_left w.mu (List.perm_append_comm (l₁ := [p]) (l₂ := w.la)))).mpr ?_
    rw [← List.append_assoc]
    exact nodup_snoc ok.nd fun h => (List.mem_append.mp h).elim nm nl
  · obtain ⟨⟨u, z⟩, q1, q2⟩ := ok.fF a h
    exact ⟨⟨u, by rw [upd_ne (ne_of_none z n)]; exact z⟩, fun h => (List.mem_append.mp h).elim q1 fun h => ne_of_none z n (by simpa using h), q2⟩
  · show (w.mu ++ [p])[st.g.length]? = some p
    rw [List.getElem?_append_right (by rw [ok.lg]; exact Nat.le_refl _), ok.lg]
    simp
/-- a new list by its kind -/
theorem new_lst {kd : Nat} {p : Addr} {vs : List V} {xs : List D} {k : KE} (n : H p = none) (ok : WOk K H w st) (r : Reps K H (w.M st) vs xs) (h : newL kd xs st k) :
    ∃ ev w' st', Le H w st (upd H p (.lst vs)) w' st' ∧ WOk K (upd H p (.lst vs)) w' st' ∧ EVRep K (upd H p (.lst vs)) w' st' (.ref p) ev ∧ k ev st' := by
  unfold newL at h
  split at h
  · obtain ⟨a, b, c⟩ := new_lst0 n ok r
    exact ⟨.d (.list xs), w, st, a, b, c, h⟩
  · obtain ⟨a, b, c⟩ := new_lm n ok r
    exact ⟨_, _, _, a, b, c, h⟩
  · obtain ⟨a, b, c⟩ := new_gm n ok r
    exact ⟨_, _, _, a, b, c, h⟩
end
end VI

/-! VI4: operators, calls of built-ins, by data. -/
namespace VI
open PySem PySem.Spec PyProof.Rows L2
theorem PE.mono {X : Cx} {e : Expr} {t t' : TE} (h : PE X e t) (m : ∀ σ H Q, t' σ H Q → t σ H Q) : PE X e t' := ⟨fun pins s σ H Q I q => h.run pins s σ H Q I (m σ H Q q)⟩
theorem PT.mono {X : Cx} {e : Expr} {t t' : TT} (h : PT X e t) (m : ∀ σ H Q, t' σ H Q → t σ H Q) : PT X e t' := ⟨fun pins s σ H Q I q => h.run pins s σ H Q I (m σ H Q q)⟩
theorem PW.mono {X : Cx} {e : Expr} {t t' : TT} (h : PW X e t) (m : ∀ σ H Q, t' σ H Q → t σ H Q) : PW X e t' := ⟨fun wh pins s σ H Q I q => h.run wh pins s σ H Q I (m σ H Q q)⟩
theorem PA.mono {X : Cx} {e : List Expr} {t t' : TA} (h : PA X e t) (m : ∀ σ H Q, t' σ H Q → t σ H Q) : PA X e t' := ⟨fun pos pins s σ H Q I q => h.run pos pins s σ H Q I (m σ H Q q)⟩
theorem PS.mono {X : Cx} {e : Stmt} {t t' : TS} (h : PS X e t) (m : ∀ D σ H, t' D σ H → t D σ H) : PS X e t' := ⟨fun pins s σ H D I q => h.run pins s σ H D I (m D σ H q)⟩
theorem PSs.mono {X : Cx} {e : List Stmt} {t t' : TS} (h : PSs X e t) (m : ∀ D σ H, t' D σ H → t D σ H) : PSs X e t' := ⟨fun pins s σ H D I q => h.run pins s σ H D I (m D σ H q)⟩
theorem PO.mono {X : Cx} {e : Option Expr} {t t' : TO} (h : PO X e t) (m : ∀ σ H Q, t' σ H Q → t σ H Q) : PO X e t' := ⟨fun pins s σ H Q I q => h.run pins s σ H Q I (m σ H Q q)⟩
theorem PI.mono {X : Cx} {tg e : Expr} {t t' : TI} (h : PI X tg e t) (m : ∀ σ H R, t' σ H R → t σ H R) : PI X tg e t' := ⟨fun pins s σ H R I q => h.run pins s σ H R I (m σ H R q)⟩
theorem PG.mono {X : Cx} {e : Expr} {t t' : TG} (h : PG X e t) (m : ∀ v σ H Q, t' v σ H Q → t v σ H Q) : PG X e t' := ⟨fun pins s σ H v u Q I r q => h.run pins s σ H v u Q I r (m v σ H Q q)⟩

/-- what is wanted behind an operation that makes no list that may change -/
abbrev Post (K : PySem.W.Frag) (H : Hp) (w : Wd) (st : Sto) (Q : VK) (ev : EV) : Prop := ∀ v H', Le H w st H' w st → WOk K H' w st → EVRep K H' w st v ev → Q v H'
abbrev PostW (K : PySem.W.Frag) (H : Hp) (w : Wd) (st : Sto) (Q : VK) (ev : EV) (st' : Sto) : Prop := ∀ v H' w', Le H w st H' w' st' → WOk K H' w' st' → EVRep K H' w' st' v ev → Q v H'
def opA : BOp → Operator
  | .add => .Add | .sub => .Sub | .mul => .Mult | .fdiv => .FloorDiv | .fdivw => .FloorDiv | .mod => .Mod | .pow => .Pow
def opC : COp → CmpOp
  | .lt => .Lt | .le => .LtE | .gt => .Gt | .ge => .GtE | .eq => .Eq | .ne => .NotEq | .isin => .In | .notin => .NotIn
def rBin (K : PySem.W.Frag) (o : BOp) : R2 := fun x y H Q => ∃ w st ex ey, WOk K H w st ∧ EVRep K H w st x ex ∧ EVRep K H w st y ey ∧ binK o ex ey (Post K H w st Q)
def rCmp (K : PySem.W.Frag) (o : COp) : R2 := fun x y H Q => ∃ w st ex ey, WOk K H w st ∧ EVRep K H w st x ex ∧ EVRep K H w st y ey ∧ cmpK o ex ey st fun b => Q (.bl b) H
structure XOk (X : Cx) : Prop where
  calm : X.calm = true
  xe : X.xe = fun _ _ => False
  hu : X.A.units + 65 < cLine
  gd : X.A.guards = some []
  nodig : X.base.NoDigits
theorem line6 : (1000000 : Nat) ≤ sizeLine := by rw [sizeLine_eq]; decide
section
variable {X : Cx}
theorem op_fdivA : OpR X (binaryOp .FloorDiv) (rI (fun _ j => j ≠ 0 ∧ j.natAbs.log2 < 9000) fun i j => .int (i.fdiv j)) := opI fun _ _ _ _ _ _ _ hc q => floordiv_int hc.1 q (.inl (PyProof.noPylong_of_log2 hc.2))
theorem iop_fdivA : OpR X (inplaceOp .FloorDiv) (rI (fun _ j => j ≠ 0 ∧ j.natAbs.log2 < 9000) fun i j => .int (i.fdiv j)) := opI fun _ _ _ _ _ _ _ hc q => ifloordiv_int hc.1 q (.inl (PyProof.noPylong_of_log2 hc.2))
theorem noPylong_wide {x y : Int} (h0 : y ≠ 0) (h : x.natAbs.log2 ≤ y.natAbs.log2 + 4400) : Builtin.divisionGoesByPylong x y = false := by
  have hy : (if y == 0 then 0 else y.natAbs.log2 / 30 + 1) = y.natAbs.log2 / 30 + 1 := if_neg (by simpa using h0)
  have hx : (if x == 0 then 0 else x.natAbs.log2 / 30 + 1) ≤ x.natAbs.log2 / 30 + 1 := by
    split
    · omega
    · exact Nat.le_refl _
  refine Bool.and_eq_false_iff.mpr (.inr (decide_eq_false ?_))
  show ¬ ((if x == 0 then 0 else x.natAbs.log2 / 30 + 1) > (if y == 0 then 0 else y.natAbs.log2 / 30 + 1) + 150)
  rw [hy]
  omega
theorem op_fdivW : OpR X (binaryOp .FloorDiv) (rI (fun i j => j ≠ 0 ∧ (j.natAbs.log2 < 9000 ∨ i.natAbs.log2 ≤ j.natAbs.log2 + 4400)) fun i j => .int (i.fdiv j)) := opI fun _ _ _ _ _ _ _ hc q => floordiv_int hc.1 q (.inl (hc.2.elim (fun z => PyProof.noPylong_of_log2 z) (fun z => noPylong_wide hc.1 z)))
theorem iop_fdivW : OpR X (inplaceOp .FloorDiv) (rI (fun i j => j ≠ 0 ∧ (j.natAbs.log2 < 9000 ∨ i.natAbs.log2 ≤ j.natAbs.log2 + 4400)) fun i j => .int (i.fdiv j)) := opI fun _ _ _ _ _ _ _ hc q => ifloordiv_int hc.1 q (.inl (hc.2.elim (fun z => PyProof.noPylong_of_log2 z) (fun z => noPylong_wide hc.1 z)))
theorem iop_mulW : OpR X (inplaceOp .Mult) (rI CMulW fun i j => .int (i * j)) := opI fun _ _ _ _ _ _ _ hc q => imul_int q hc.ok
theorem op_subB : OpR X (binaryOp .Sub) (fun x y H Q => ∃ i j : Bool, x = .bl i ∧ y = .bl j ∧ Q (.int ((if i = true then 1 else 0) - (if j = true then 1 else 0))) H) := by
  intro pins s σ H x y v u Q I rx ry h
  obtain ⟨i, j, rfl, rfl, q⟩ := h
  cases (show v = Value.bool i from rx)
  cases (show u = Value.bool j from ry)
  refine PyProof.Rows.sub_bool ⟨.int ((if i = true then 1 else 0) - (if j = true then 1 else 0)), H, I.tok _, ⟨s.toks, by cases i <;> cases j <;> rfl⟩, q⟩
/-- a tuple once, or not at all -/
theorem tuple_mulS (l : Addr) (items : Array Value) (n : Nat) (dd : Option Addr) (sl : Array (Option Value)) (x : Int) (u : Tok) (c0 : (decide (x < -(2 ^ 63)) || decide (x ≥ 2 ^ 63)) = false) (c1 : (items.isEmpty || x == 1) = true) :
    Meets (Builtin.«tuple.__mul__» ⟨[.ref l, .int x u], []⟩) (fun _ R s => s.heap.get? l = some { cls := .type "tuple", dict := dd, data := .seq items n, slots := sl } ∧ R (.ok (.ret (Value.ref l))) s) :=
  .of_wp fun prog w A R s h => by
    obtain ⟨hp, g, d, tk, os⟩ := s
    obtain ⟨hl, h⟩ := h
    have f1 := AutoSeq1.idx_int
    have f2 := AutoSeq1.sub_tuple_tuple
    wp_walk using wpAny_loadPart' hl
    repeat (first
      | (refine wpAny_ite_false (decide_eq_false (by rw [c0]; exact Bool.false_ne_true)) ?_; wp_walk using wpAny_loadPart' hl)
      | (refine wpAny_ite_true (decide_eq_true c1) ?_; wp_walk using wpAny_loadPart' hl))
    exact ⟨_, rfl, h⟩
theorem tuple_mulE (l : Addr) (items : Array Value) (n : Nat) (dd : Option Addr) (sl : Array (Option Value)) (x : Int) (u : Tok) (c0 : (decide (x < -(2 ^ 63)) || decide (x ≥ 2 ^ 63)) = false) (c1 : (items.isEmpty || x == 1) = false) (c2 : (decide (x ≤ 0) || items.isEmpty) = true) :
    Meets (Builtin.«tuple.__mul__» ⟨[.ref l, .int x u], []⟩) (fun _ R s => s.heap.get? l = some { cls := .type "tuple", dict := dd, data := .seq items n, slots := sl } ∧
      R (.ok (.ret (Value.ref s.heap.objs.size))) { s with heap := s.heap.push { cls := Value.type "tuple", data := Data.seq #[] }, toks := s.toks }) :=
  .of_wp fun prog w A R s h => by
    obtain ⟨hp, g, d, tk, os⟩ := s
    obtain ⟨hl, h⟩ := h
    have f1 := AutoSeq1.idx_int
    wp_walk using wpAny_loadPart' hl
    repeat (first
      | (refine wpAny_ite_false (decide_eq_false (by rw [c0]; exact Bool.false_ne_true)) ?_; wp_walk using wpAny_loadPart' hl)
      | (refine wpAny_ite_false (decide_eq_false (by rw [c1]; exact Bool.false_ne_true)) ?_; wp_walk using wpAny_loadPart' hl)
      | (refine wpAny_ite_true (decide_eq_true c2) ?_; wp_walk using wpAny_loadPart' hl))
    exact ⟨_, rfl, h⟩
theorem op_mulT {X : Cx} : OpR X (binaryOp .Mult) (fun x y H Q => ∃ l xs, ∃ b : Bool, x = .ref l ∧ y = .int (if b = true then 1 else 0) ∧ SqT X.K H l xs ∧ (b = true ∨ xs = [] → Q (.ref l) H) ∧ (b = false → xs ≠ [] → ∀ p, H p = none → Q (.ref p) (upd H p (.tup [])))) := by
  intro pins s σ H x y v u Q I rx ry h
  obtain ⟨l, xs, b, rfl, rfl, hT, q1, q2⟩ := h
  cases rx
  obtain ⟨t, rfl⟩ := ry
  obtain ⟨its, r, ⟨⟨cls, dd, data, sl⟩, ho, hc, n, hd⟩, hs⟩ := I.tuple hT
  simp only at hc hd
  subst hc hd
  have hle : its.length = xs.length := r.length.symm
  have c0 : (decide ((if b = true then (1 : Int) else 0) < -(2 ^ 63)) || decide ((if b = true then (1 : Int) else 0) ≥ 2 ^ 63)) = false := by
    cases b <;> decide
  by_cases hb : b = true ∨ xs = []
  · have c1 : (its.toArray.isEmpty || (if b = true then (1 : Int) else 0) == 1) = true := by
      rcases hb with rfl | rfl
      · simp
      · cases its with
        | nil => rfl
        | cons _ _ => simp at hle
    exact wpAny_binaryOp_repeat_ref (T := "tuple") (U := "int") (by decide) ⟨_, ho, rfl⟩ (fun s' => typeIs_int s' _ t) noFill_tuple_mul F.fills_int_mul F.slot_int_rmul repeat_tuple F.slot_int_index.lookup
      (call_meets F.slot_int_rmul (typeIs_int s _ t) F.entry_int_rmul (F.args_int_rmul_2 _ _) (int_rmul_tuple _ t l its.toArray n dd sl)
        ⟨ho, rfl, ⟨_, ho, rfl⟩, call_meets F.slot_tuple_mul ⟨_, ho, rfl⟩ F.entry_tuple_mul (F.args_tuple_mul_2 _ _) (tuple_mulS l its.toArray n dd sl _ t c0 c1) ⟨ho, ⟨.ref l, H, I, rfl, q1 hb⟩⟩⟩)
  · have hb1 : b = false := by
      cases b with
      | true => exact absurd (.inl rfl) hb
      | false => rfl
    subst hb1
    have hx : xs ≠ [] := fun z => hb (.inr z)
    have hi : its.toArray.isEmpty = false := by
      cases its with
      | nil => exact absurd (List.eq_nil_of_length_eq_zero (by rw [← hle]; rfl)) hx
      | cons a b => rfl
    have c1 : (its.toArray.isEmpty || (if false = true then (1 : Int) else 0) == 1) = false := by
      rw [hi]; rfl
    refine wpAny_binaryOp_repeat_ref (T := "tuple") (U := "int") (by decide) ⟨_, ho, rfl⟩ (fun s' => typeIs_int s' _ t) noFill_tuple_mul F.fills_int_mul F.slot_int_rmul repeat_tuple F.slot_int_index.lookup
      (call_meets F.slot_int_rmul (typeIs_int s _ t) F.entry_int_rmul (F.args_int_rmul_2 _ _) (int_rmul_tuple _ t l its.toArray n dd sl)
        ⟨ho, rfl, ⟨_, ho, rfl⟩, call_meets F.slot_tuple_mul ⟨_, ho, rfl⟩ F.entry_tuple_mul (F.args_tuple_mul_2 _ _) (tuple_mulE l its.toArray n dd sl _ t c0 c1 rfl) ⟨ho, ?_⟩⟩)
    refine ⟨.ref s.heap.objs.size, _, I.laid (t' := s.toks) (o := .tup []) (fun b ob q => Heap.get?_push_of_some _ q) (Nat.le_refl _) ?_, rfl, q2 rfl hx _ (I.hok.fresh (Nat.le_refl _))⟩
    exact ⟨by show 0 ≤ sizeLine; omega, _, .nil, IsTup.new _ _⟩
theorem op_bin (o : BOp) : OpR X (binaryOp (opA o)) (rBin X.K o) := by
  intro pins s σ H x y v u Q I rx ry h
  obtain ⟨w, st, ex, ey, ok, r1, r2, q⟩ := h
  have l6 := line6
  unfold binK at q
  split at q
  · cases (show Rep _ _ _ x _ from r1)
    cases (show Rep _ _ _ y _ from r2)
    exact op_add pins s σ H _ _ v u Q I rx ry ⟨_, _, rfl, rfl, q _ H Le.refl ok (.int _)⟩
  · cases (show Rep _ _ _ x _ from r1)
    cases (show Rep _ _ _ y _ from r2)
    exact op_sub pins s σ H _ _ v u Q I rx ry ⟨_, _, rfl, rfl, q _ H Le.refl ok (.int _)⟩
  · cases (show Rep _ _ _ x _ from r1)
    cases (show Rep _ _ _ y _ from r2)
    exact op_mulW pins s σ H _ _ v u Q I rx ry ⟨_, _, rfl, rfl, q.1, q.2 _ H Le.refl ok (.int _)⟩
  · cases (show Rep _ _ _ x _ from r1)
    cases (show Rep _ _ _ y _ from r2)
    exact op_fdivA pins s σ H _ _ v u Q I rx ry ⟨_, _, rfl, rfl, q.1, q.2 _ H Le.refl ok (.int _)⟩
  · cases (show Rep _ _ _ x _ from r1)
    cases (show Rep _ _ _ y _ from r2)
    exact op_fdivW pins s σ H _ _ v u Q I rx ry ⟨_, _, rfl, rfl, q.1, q.2 _ H Le.refl ok (.int _)⟩
  · cases (show Rep _ _ _ x _ from r1)
    cases (show Rep _ _ _ y _ from r2)
    exact op_mod pins s σ H _ _ v u Q I rx ry ⟨_, _, rfl, rfl, q.1, q.2 _ H Le.refl ok (.int _)⟩
  · cases (show Rep _ _ _ x _ from r1)
    cases (show Rep _ _ _ y _ from r2)
    exact op_pow pins s σ H _ _ v u Q I rx ry ⟨_, _, rfl, rfl, q.1, q.2 _ H Le.refl ok (.int _)⟩
  · cases (show Rep _ _ _ x _ from r1) with
    | tup f1 e1 =>
      cases (show Rep _ _ _ y _ from r2) with
      | tup f2 e2 =>
        refine op_catA pins s σ H _ _ v u Q I rx ry ⟨_, _, _, _, rfl, rfl, f1.sq, f2.sq, ?_, fun z => ?_, fun _ z => ?_, fun _ _ p n => ?_⟩
        · rw [e1.length, e2.length]; omega
        · subst z
          cases e1
          exact q.2 _ H Le.refl ok r2
        · subst z
          cases e2
          refine q.2 _ H Le.refl ok ?_
          rw [List.append_nil]
          exact r1
        · obtain ⟨a, b, c⟩ := new_tup n ok (e1.append e2)
          exact q.2 _ _ a b c
  · cases (show Rep _ _ _ x _ from r1) with
    | lst f1 m1 e1 =>
      cases (show Rep _ _ _ y _ from r2) with
      | lst f2 m2 e2 =>
        refine op_cat pins s σ H _ _ v u Q I rx ry ⟨_, _, _, _, rfl, rfl, f1, f2, ?_, fun p n => ?_⟩
        · rw [e1.length, e2.length]; omega
        · obtain ⟨a, b, c⟩ := new_lst0 n ok (e1.append e2)
          exact q.2 _ _ a b c
  · cases (show Rep _ _ _ x _ from r1)
    cases (show Rep _ _ _ y _ from r2)
    exact op_add_str pins s σ H _ _ v u Q I rx ry ⟨_, _, rfl, rfl, by omega, q.2 _ H Le.refl ok (.str _)⟩
  · cases (show Rep _ _ _ y _ from r2)
    cases (show Rep _ _ _ x _ from r1) with
    | lst f1 m1 e1 =>
      obtain ⟨⟨h0, h1, h2⟩, q⟩ := q
      refine op_rep pins s σ H _ _ v u Q I rx ry ⟨_, _, _, rfl, rfl, f1, by omega, by omega, ?_, fun p n => ?_⟩
      · rw [e1.length]; omega
      · obtain ⟨a, b, c⟩ := new_lst0 n ok (e1.rep _)
        exact q _ _ a b c
  · cases (show Rep _ _ _ x _ from r1)
    cases (show Rep _ _ _ y _ from r2)
    exact op_subB pins s σ H _ _ v u Q I rx ry ⟨_, _, rfl, rfl, q _ H Le.refl ok (.int _)⟩
  · obtain ⟨b, rfl, q⟩ := q
    cases (show Rep _ _ _ y _ from r2)
    cases (show Rep _ _ _ x _ from r1) with
    | tup f1 e1 =>
      refine op_mulT pins s σ H _ _ v u Q I rx ry ⟨_, _, b, rfl, rfl, f1.sq, fun z => ?_, fun z hx p n => ?_⟩
      · refine q _ H Le.refl ok ?_
        rcases z with rfl | rfl
        · exact r1
        · cases e1
          cases b <;> exact r1
      · subst z
        obtain ⟨a, b, c⟩ := new_tup n ok .nil
        exact q _ _ a b c
  · exact q.elim
def rAug (K : PySem.W.Frag) (o : BOp) : R2 := fun x y H Q => ∃ w st ex ey, WOk K H w st ∧ EVRep K H w st x ex ∧ EVRep K H w st y ey ∧ augK o ex ey (Post K H w st Q)
theorem op_aug (o : BOp) : OpR X (inplaceOp (opA o)) (rAug X.K o) := by
  intro pins s σ H x y v u Q I rx ry h
  obtain ⟨w, st, ex, ey, ok, r1, r2, qi, qp, q⟩ := h
  unfold binK at q
  split at q
  · cases (show Rep _ _ _ x _ from r1)
    cases (show Rep _ _ _ y _ from r2)
    exact iop_add pins s σ H _ _ v u Q I rx ry ⟨_, _, rfl, rfl, q _ H Le.refl ok (.int _)⟩
  · cases (show Rep _ _ _ x _ from r1)
    cases (show Rep _ _ _ y _ from r2)
    exact iop_sub pins s σ H _ _ v u Q I rx ry ⟨_, _, rfl, rfl, q _ H Le.refl ok (.int _)⟩
  · cases (show Rep _ _ _ x _ from r1)
    cases (show Rep _ _ _ y _ from r2)
    exact iop_mulW pins s σ H _ _ v u Q I rx ry ⟨_, _, rfl, rfl, q.1, q.2 _ H Le.refl ok (.int _)⟩
  · cases (show Rep _ _ _ x _ from r1)
    cases (show Rep _ _ _ y _ from r2)
    exact iop_fdivA pins s σ H _ _ v u Q I rx ry ⟨_, _, rfl, rfl, q.1, q.2 _ H Le.refl ok (.int _)⟩
  · cases (show Rep _ _ _ x _ from r1)
    cases (show Rep _ _ _ y _ from r2)
    exact iop_fdivW pins s σ H _ _ v u Q I rx ry ⟨_, _, rfl, rfl, q.1, q.2 _ H Le.refl ok (.int _)⟩
  · cases (show Rep _ _ _ x _ from r1)
    cases (show Rep _ _ _ y _ from r2)
    exact iop_mod pins s σ H _ _ v u Q I rx ry ⟨_, _, rfl, rfl, q.1, q.2 _ H Le.refl ok (.int _)⟩
  · exact absurd rfl qp
  all_goals first | exact qi.elim | exact q.elim
theorem eqv_strs {x : Str} : ∀ {ys : List D} {vs : List V} {K : PySem.W.Frag} {H : Hp} {M : Addr → Prop}, Reps K H M vs ys → ys.all isStr = true → vs.all flatV = true ∧ inV (.str x) vs = ys.any fun z => PyData.eqv z (.str x)
  | _, _, _, _, _, .nil, _ => ⟨rfl, rfl⟩
  | _, _, _, _, _, .cons r t, h => by
    rw [List.all_cons, Bool.and_eq_true] at h
    obtain ⟨h1, h2⟩ := eqv_strs t h.2
    cases r with
    | str z =>
      refine ⟨by rw [List.all_cons, h1]; rfl, ?_⟩
      unfold inV at h2 ⊢
      rw [List.any_cons, List.any_cons, h2]
      congr 1
    | _ => exact absurd h.1 Bool.false_ne_true
theorem inP_of {x : D} {ys : List D} (h : inP x ys = true) : ∃ a, x = .str a ∧ ys.all isStr = true := by
  unfold inP at h
  rw [Bool.and_eq_true] at h
  obtain ⟨h1, h2⟩ := h
  cases x with
  | str a => exact ⟨a, rfl, h2⟩
  | _ => exact absurd h1 Bool.false_ne_true
/-- x in a tuple, deep -/
theorem op_inTD (hu : X.A.units + 65 < cLine) : OpR X (compareOp .In) (fun x y H Q => ∃ d ds, Dp X.K H x d ∧ Dp X.K H y (.tuple ds) ∧ Shp d ∧ Shp (.tuple ds) ∧ Q (.bl (ds.any fun z => PyData.eqv z d)) H) := by
  intro pins s σ H x y v u Q I rx ry h
  obtain ⟨d, ds, hd, he, sd, se, q⟩ := h
  obtain ⟨as, r1⟩ := Dp.reads I d x v hd rx
  obtain ⟨bs, r2⟩ := Dp.reads I (.tuple ds) y u he ry
  have p1 := PyData.plain_of_canLay0 _ (SeqAt.canLay_of_shaped sd)
  have p2 := PyData.plain_of_canLay0 _ (SeqAt.canLay_of_shaped se)
  simp only [PyData.plain] at p2
  have dd := SeqAt.depth_of_shaped sd
  exact SeqAt.in_tuple_data r2 r1 p2 p1 (by omega) ⟨.bl _, H, I, rfl, q⟩
theorem op_notInTD (hu : X.A.units + 65 < cLine) : OpR X (compareOp .NotIn) (fun x y H Q => ∃ d ds, Dp X.K H x d ∧ Dp X.K H y (.tuple ds) ∧ Shp d ∧ Shp (.tuple ds) ∧ Q (.bl (!ds.any fun z => PyData.eqv z d)) H) := by
  intro pins s σ H x y v u Q I rx ry h
  obtain ⟨d, ds, hd, he, sd, se, q⟩ := h
  obtain ⟨as, r1⟩ := Dp.reads I d x v hd rx
  obtain ⟨bs, r2⟩ := Dp.reads I (.tuple ds) y u he ry
  have p1 := PyData.plain_of_canLay0 _ (SeqAt.canLay_of_shaped sd)
  have p2 := PyData.plain_of_canLay0 _ (SeqAt.canLay_of_shaped se)
  simp only [PyData.plain] at p2
  have dd := SeqAt.depth_of_shaped sd
  exact SeqAt.notIn_tuple_data r2 r1 p2 p1 (by omega) ⟨.bl _, H, I, rfl, q⟩
theorem flat_of {x y : D} (h : flatP x y = true) : (∃ a b, x = .int a ∧ y = .int b) ∨ ∃ a b, x = .str a ∧ y = .str b := by
  unfold flatP at h
  split at h
  · exact .inl ⟨_, _, rfl, rfl⟩
  · exact .inr ⟨_, _, rfl, rfl⟩
  · cases h
theorem op_cmp (xo : XOk X) (o : COp) : OpR X (compareOp (opC o)) (rCmp X.K o) := by
  intro pins s σ H x y v u Q I rx ry h
  obtain ⟨w, st, ex, ey, ok, r1, r2, q⟩ := h
  have hu := xo.hu
  unfold cmpK at q
  split at q
  · cases (show Rep _ _ _ x _ from r1)
    cases (show Rep _ _ _ y _ from r2)
    exact op_lt pins s σ H _ _ v u Q I rx ry ⟨_, _, rfl, rfl, q⟩
  · cases (show Rep _ _ _ x _ from r1)
    cases (show Rep _ _ _ y _ from r2)
    exact op_le pins s σ H _ _ v u Q I rx ry ⟨_, _, rfl, rfl, q⟩
  · cases (show Rep _ _ _ x _ from r1)
    cases (show Rep _ _ _ y _ from r2)
    exact op_gt pins s σ H _ _ v u Q I rx ry ⟨_, _, rfl, rfl, q⟩
  · cases (show Rep _ _ _ x _ from r1)
    cases (show Rep _ _ _ y _ from r2)
    exact op_ge pins s σ H _ _ v u Q I rx ry ⟨_, _, rfl, rfl, q⟩
  · rename_i dx dy
    obtain ⟨o, q⟩ := q
    rcases o with o | ⟨o1, o2⟩
    · rcases flat_of o with ⟨a, b, rfl, rfl⟩ | ⟨a, b, rfl, rfl⟩
      · cases (show Rep _ _ _ x _ from r1)
        cases (show Rep _ _ _ y _ from r2)
        refine op_eq pins s σ H _ _ v u Q I rx ry ⟨rfl, ?_⟩
        rw [show decide (V.int _ = V.int _) = _ from dec_int]
        rw [PyData.eqv] at q
        exact q
      · cases (show Rep _ _ _ x _ from r1)
        cases (show Rep _ _ _ y _ from r2)
        refine op_eq pins s σ H _ _ v u Q I rx ry ⟨rfl, ?_⟩
        rw [show decide (V.str _ = V.str _) = _ from dec_str]
        rw [PyData.eqv] at q
        exact q
    · exact op_eqD (by omega) pins s σ H _ _ v u Q I rx ry ⟨_, _, Rep.dp r1, Rep.dp r2, o1, o2, q⟩
  · rename_i dx dy
    obtain ⟨o, q⟩ := q
    rcases o with o | ⟨o1, o2⟩
    · rcases flat_of o with ⟨a, b, rfl, rfl⟩ | ⟨a, b, rfl, rfl⟩
      · cases (show Rep _ _ _ x _ from r1)
        cases (show Rep _ _ _ y _ from r2)
        refine op_ne pins s σ H _ _ v u Q I rx ry ⟨rfl, ?_⟩
        rw [show decide (V.int _ = V.int _) = _ from dec_int]
        rw [PyData.eqv] at q
        exact q
      · cases (show Rep _ _ _ x _ from r1)
        cases (show Rep _ _ _ y _ from r2)
        refine op_ne pins s σ H _ _ v u Q I rx ry ⟨rfl, ?_⟩
        rw [show decide (V.str _ = V.str _) = _ from dec_str]
        rw [PyData.eqv] at q
        exact q
    · exact op_neD (by omega) pins s σ H _ _ v u Q I rx ry ⟨_, _, Rep.dp r1, Rep.dp r2, o1, o2, q⟩
  · rename_i dx ys
    obtain ⟨o, q⟩ := q
    rcases o with o | ⟨o1, o2⟩
    · obtain ⟨a, rfl, o⟩ := inP_of o
      cases (show Rep _ _ _ x _ from r1)
      cases (show Rep _ _ _ y _ from r2) with
      | tup f2 e2 =>
        obtain ⟨h1, h2⟩ := eqv_strs e2 o
        refine op_in_seq pins s σ H _ _ v u Q I rx ry ⟨_, _, rfl, .inr f2.sq, rfl, h1, ?_⟩
        rw [h2]
        exact q
    · exact op_inTD (by omega) pins s σ H _ _ v u Q I rx ry ⟨_, _, Rep.dp r1, Rep.dp r2, o1, o2, q⟩
  · rename_i dx ys
    obtain ⟨o, q⟩ := q
    rcases o with o | ⟨o1, o2⟩
    · obtain ⟨a, rfl, o⟩ := inP_of o
      cases (show Rep _ _ _ x _ from r1)
      cases (show Rep _ _ _ y _ from r2) with
      | tup f2 e2 =>
        obtain ⟨h1, h2⟩ := eqv_strs e2 o
        refine op_notIn_seq pins s σ H _ _ v u Q I rx ry ⟨_, _, rfl, .inr f2.sq, rfl, h1, ?_⟩
        rw [h2]
        exact q
    · exact op_notInTD (by omega) pins s σ H _ _ v u Q I rx ry ⟨_, _, Rep.dp r1, Rep.dp r2, o1, o2, q⟩
  · exact op_inD (by omega) pins s σ H _ _ v u Q I rx ry ⟨_, _, Rep.dp r1, Rep.dp r2, q.1, q.2.1, q.2.2⟩
  · exact op_notInD (by omega) pins s σ H _ _ v u Q I rx ry ⟨_, _, Rep.dp r1, Rep.dp r2, q.1, q.2.1, q.2.2⟩
  · rename_i n ys
    obtain ⟨xs, e, ⟨s1, s2⟩, q⟩ := q
    obtain ⟨a, rfl, ha⟩ := r1
    obtain ⟨a', vs, e', z, rs⟩ := ok.l n xs e
    rw [ha] at e'
    cases e'
    exact op_eqD (by omega) pins s σ H _ _ v u Q I rx ry ⟨_, _, .lst (SqL.of z) (Reps.dp rs), Rep.dp r2, s1, s2, q⟩
  · rename_i n ys
    obtain ⟨xs, e, ⟨s1, s2⟩, q⟩ := q
    obtain ⟨a, rfl, ha⟩ := r1
    obtain ⟨a', vs, e', z, rs⟩ := ok.l n xs e
    rw [ha] at e'
    cases e'
    exact op_neD (by omega) pins s σ H _ _ v u Q I rx ry ⟨_, _, .lst (SqL.of z) (Reps.dp rs), Rep.dp r2, s1, s2, q⟩
  · exact q.elim
end
end VI

/-! VI5: repr of data whose ints have fewer than 4,300 digits. -/
namespace VI
open PySem PySem.Spec PyProof.Rows
open PySem.Builtin PySem.Builtin.Str PySem.Builtin.Int
section
variable {prog : Program} {w : World} {A : Around} {E : Value → Shared → Prop} {s : Shared} {a : Int} {t : Tok} {h₀ : Heap}
theorem call_int_repr_lt {Q : Value → Shared → Prop} (hn : s.heap.NoDigits) (hlt : a.natAbs < 10 ^ 4300) (h1 : Q (.str (toString a) s.toks) { s with toks := s.toks + 1 }) :
    wpAny (model prog w) A (call (.builtin "int.__repr__") [.int a t]) Q E s := by
  refine wpAny_call_entry F.slot_int_repr (typeIs_int s a t) F.entry_int_repr ?_ (F.args_int_repr_1 _)
  unfold Builtin.«int.__repr__»
  show wpAny _ _ (do let r ← Builtin.overDigitLimit? a; _) _ _ s
  refine wpAny_bind (overDigitLimit_any hn (fun hlt => ?_) (fun hge => absurd hlt (Nat.not_lt.mpr hge)))
  exact wpAny_bind (wpAny_mkStr (wpAny_pure ⟨_, rfl, h1⟩) (int_text_fits10 hlt))
theorem pyReprObj_int_lt {Q : Value → Shared → Prop} (hn : s.heap.NoDigits) (hlt : a.natAbs < 10 ^ 4300) (h : Q (.str (toString a) s.toks) { s with toks := s.toks + 1 }) : wpAny (model prog w) A (pyReprObj (.int a t)) Q E s := by
  have hv : [Value.int a t].any Value.onHeap = false := rfl
  unfold pyReprObj
  simp only [cRoomFor, hv, Bool.false_eq_true, if_false, pure_bind]
  refine wpAny_bind (wpAny_specialOf (name := Str.ofString "__repr__") (typeIs_int s a t) F.slot_int_repr.lookup ?_)
  refine wpAny_bind (m := callSpecialIfBound? (.int a t) (Str.ofString "__repr__")) (wpAny_callSpecialIfBound?_slot (name := Str.ofString "__repr__") (typeIs_int s a t) F.slot_int_repr (call_int_repr_lt hn hlt ?_))
  exact wpAny_bind (wpAny_isInstance (T := "str") (b := true) rfl isSubtype_str_str (wpAny_pure h))
theorem pyRepr_int_lt {Q : Str → Shared → Prop} (hn : s.heap.NoDigits) (hlt : a.natAbs < 10 ^ 4300) (h : Q (toString a) { s with toks := s.toks + 1 }) : wpAny (model prog w) A (pyRepr (.int a t)) Q E s := by
  unfold pyRepr
  exact wpAny_bind (pyReprObj_int_lt hn hlt (wpAny_pure h))
theorem reprK_int (hn : h₀.NoDigits) (hlt : a.natAbs < 10 ^ 4300) (as : List Addr) (d : Nat) : ReprK prog w as h₀ d (.int a t) (toString a) := by
  intro base hb A g E s Q hg hcl hu hk hQ
  rw [pyReprUnder_leaf (by omega) (fun _ z => by cases z)]
  exact pyRepr_int_lt (hn.keeps hk) hlt (hQ s.heap _ fun _ _ e => e)
mutual
theorem reprK_of : ∀ {v : Value} {d : PyData} {as : List Addr}, h₀.NoDigits → Reads h₀ v d as → showB d = true → d.shown.length ≤ sizeLine → ∃ bs, ReadAtMost h₀ d.depth bs ∧ ReprK prog w bs h₀ d.depth v d.shown
  | _, _, _, _, .none, _, _ => ⟨[], (fun _ h => nomatch h), by simp only [PyData.shown]; exact .of_is ReprIs.none _ _ _⟩
  | _, _, _, _, .bool b, _, _ => ⟨[], (fun _ h => nomatch h), by simp only [PyData.shown]; exact .of_is (ReprIs.bool b) _ _ _⟩
  | _, _, _, hn, .int i t, hs, _ => ⟨[], (fun _ h => nomatch h), by
    simp only [PyData.shown]
    simp only [showB] at hs
    exact reprK_int hn (of_decide_eq_true hs) _ _⟩
  | _, _, _, _, .str x t, _, hz => ⟨[], (fun _ h => nomatch h), by simp only [PyData.shown]; exact .of_is (ReprIs.str x t (by simpa only [PyData.shown] using hz)) _ _ _⟩
  | _, _, _, hn, .list (a := a) (vs := vs) (xs := xs) h1 h2 h3 h4, hs, hz => by
    have hz' : (listText (PyData.shownAll xs)).length ≤ sizeLine := by simpa only [PyData.shown] using hz
    obtain ⟨bs, hb, hk⟩ := reprKs_of hn h4 (by simpa only [showB] using hs) (fun t ht => Nat.le_trans (listText_mem_le ht) hz')
    have r : Reads h₀ (.ref a) (.list xs) _ := .list h1 h2 h3 h4
    have hna : a ∉ bs := not_mem_of_deeper r (by simp only [PyData.depth]; omega) hb
    refine ⟨a :: bs, ReadAtMost.cons r (by simp only [PyData.depth]; omega) hb, ?_⟩
    simp only [PyData.depth, PyData.shown]
    obtain ⟨l⟩ := vs
    cases l with
    | nil =>
      have h4' : ReadsAll h₀ [] xs _ := h4
      cases h4'
      simp only [PyData.shownAll, listText_nil]
      exact ReprK.listEmpty h1 h2 h3
    | cons x l => exact ReprK.list h1 h2 h3 hna (by simpa using hk.length_eq) (fun i y e => hk.item i y (by simpa using e))
  | _, _, _, hn, .tuple (a := a) (xs := xs) h1 h2 h3 h4, hs, hz => by
    have hz' : (tupleText (PyData.shownAll xs)).length ≤ sizeLine := by simpa only [PyData.shown] using hz
    obtain ⟨bs, hb, hk⟩ := reprKs_of hn h4 (by simpa only [showB] using hs) (fun t ht => Nat.le_trans (tupleText_mem_le ht) hz')
    have r : Reads h₀ (.ref a) (.tuple xs) _ := .tuple h1 h2 h3 h4
    have hna : a ∉ bs := not_mem_of_deeper r (by simp only [PyData.depth]; omega) hb
    refine ⟨a :: bs, ReadAtMost.cons r (by simp only [PyData.depth]; omega) hb, ?_⟩
    simp only [PyData.depth, PyData.shown]
    exact ReprK.tuple h1 h2 h3 hna hk
  | _, _, _, _, .dict _ _ _ _ _, hs, _ => by simp [showB] at hs
theorem reprKs_of : ∀ {vs : List Value} {ds : List PyData} {as : List Addr}, h₀.NoDigits → ReadsAll h₀ vs ds as → showBs ds = true → (∀ t ∈ PyData.shownAll ds, t.length ≤ sizeLine) →
    ∃ bs, ReadAtMost h₀ (PyData.depthAll ds) bs ∧ ReprAllK prog w bs h₀ (PyData.depthAll ds) vs (PyData.shownAll ds)
  | _, _, _, _, .nil, _, _ => ⟨[], (fun _ h => nomatch h), by simp only [PyData.shownAll]; exact .nil⟩
  | _, _, _, hn, .cons (d := d) (ds := ds) r rs, hs, hz => by
    have hs' : showB d = true ∧ showBs ds = true := by simpa [showBs] using hs
    obtain ⟨b1, hb1, k1⟩ := reprK_of hn r hs'.1 (hz _ (by simp only [PyData.shownAll]; exact List.mem_cons_self ..))
    obtain ⟨b2, hb2, k2⟩ := reprKs_of hn rs hs'.2 (fun t ht => hz t (by simp only [PyData.shownAll]; exact List.mem_cons_of_mem _ ht))
    refine ⟨b1 ++ b2, ?_, ?_⟩
    · intro b hm
      simp only [PyData.depthAll]
      rcases List.mem_append.mp hm with hm | hm
      · obtain ⟨d', as', r', hd'⟩ := hb1 b hm
        exact ⟨d', as', r', Nat.le_trans hd' (Nat.le_max_left _ _)⟩
      · obtain ⟨d', as', r', hd'⟩ := hb2 b hm
        exact ⟨d', as', r', Nat.le_trans hd' (Nat.le_max_right _ _)⟩
    · simp only [PyData.depthAll, PyData.shownAll]
      exact .cons ((k1.more fun b hb => List.mem_append_left _ hb).level_le (Nat.le_max_left _ _)) (k2.more_le (fun b hb => List.mem_append_right _ hb) (Nat.le_max_right _ _))
end
end
section
variable {prog : Program} {w : World} {A : Around} {E : Value → Shared → Prop} {s : Shared} {v : Value}
theorem call_repr_slot {T id : String} {Q : Value → Shared → Prop} (hT : s.TypeIs v T) (slot : SlotG T "__repr__" id) (hu : A.units + 1 < cLine)
    (h : wpAny (model prog w) A.in1 (call (.builtin id) [v]) (fun r s' => (∃ x u, r = .str x u) ∧ Q r s') E s) : wpAny (model prog w) A (call (.builtin "repr") [v]) Q E s := by
  refine Calls.call_function_entry F.kind_repr F.plain_repr F.entry_repr (F.args_repr1 _) ?_
  unfold Builtin.«repr»
  refine wpAny_bind (m := oneArg "repr" _) (wpAny_pure ?_)
  refine wpAny_bind (wpAny_cRoomFor hu ?_)
  refine wpAny_bind (wpAny_specialOf (name := Str.ofString "__repr__") hT slot.lookup ?_)
  refine wpAny_bind (m := callSpecialIfBound? v (Str.ofString "__repr__")) (wpAny_callSpecialIfBound?_slotG (name := Str.ofString "__repr__") hT slot (wpAny_mono h (fun r s' hq => ?_) fun _ _ z => z))
  obtain ⟨⟨x, u, rfl⟩, hq⟩ := hq
  refine wpAny_bind (wpAny_isInstance (T := "str") (b := true) rfl isSubtype_str_str ?_)
  exact wpAny_pure ⟨_, rfl, hq⟩
theorem call_repr_of {d : PyData} {as : List Addr} (hn : s.heap.NoDigits) (r : Reads s.heap v d as) (hs : showB d = true) (hz : d.shown.length ≤ sizeLine) {Q : Value → Shared → Prop} (hg : A.guards = some []) (hu : A.units + 65 < cLine) (hd : d.depth ≤ 64)
    (hQ : ∀ h' u tk, (∀ b o, s.heap.get? b = some o → h'.get? b = some o) → Q (.str d.shown u) { s with heap := h', toks := tk }) : wpAny (model prog w) A (call (.builtin "repr") [v]) Q E s := by
  cases r with
  | none =>
    simp only [PyData.shown] at hQ
    exact PySem.P.repr_of_none (hQ s.heap _ _ fun _ _ e => e)
  | bool b =>
    simp only [PyData.shown] at hQ
    exact PySem.P.repr_of_bool (hQ s.heap _ _ fun _ _ e => e)
  | int i t =>
    simp only [PyData.shown] at hQ
    simp only [showB] at hs
    refine call_repr_slot (typeIs_int s i t) F.slot_int_repr.toG (by omega) ?_
    exact call_int_repr_lt hn (of_decide_eq_true hs) ⟨⟨_, _, rfl⟩, hQ s.heap _ _ fun _ _ e => e⟩
  | str x t =>
    simp only [PyData.shown] at hQ hz
    exact PySem.P.repr_of_str (hQ s.heap _ _ fun _ _ e => e) hz
  | @list a o vs n xs bs h1 h2 h3 h4 =>
    have hz' : (listText (PyData.shownAll xs)).length ≤ sizeLine := by simpa only [PyData.shown] using hz
    obtain ⟨bs, hb, hk⟩ := reprKs_of (prog := prog) (w := w) hn h4 (by simpa only [showB] using hs) (fun t ht => Nat.le_trans (listText_mem_le ht) hz')
    have r : Reads s.heap (.ref a) (.list xs) _ := .list h1 h2 h3 h4
    have hna : a ∉ bs := not_mem_of_deeper r (by simp only [PyData.depth]; omega) hb
    simp only [PyData.depth] at hd
    simp only [PyData.shown] at hQ
    refine call_repr_slot ⟨_, h1, h2⟩ F.slot_list_repr.toG (by omega) ?_
    obtain ⟨l⟩ := vs
    cases l with
    | nil =>
      have h4' : ReadsAll s.heap [] xs _ := h4
      cases h4'
      simp only [PyData.shownAll, listText_nil] at hQ
      exact call_list_repr_empty ⟨_, h1, h2⟩ h1 h3 ⟨⟨_, _, rfl⟩, hQ s.heap _ _ fun _ _ e => e⟩
    | cons x l =>
      exact call_list_reprK h1 h2 h3 hna (by simpa using hk.length_eq) (fun i y e => hk.item i y (by simpa using e)) hg (fun b _ => Clear.nil b) (by show A.units + 1 + _ < _; omega) (fun _ _ e => e) (fun h' u tk hk' => ⟨⟨_, _, rfl⟩, hQ h' u tk hk'⟩) hz'
  | @tuple a o vs n xs bs h1 h2 h3 h4 =>
    have hz' : (tupleText (PyData.shownAll xs)).length ≤ sizeLine := by simpa only [PyData.shown] using hz
    obtain ⟨bs, hb, hk⟩ := reprKs_of (prog := prog) (w := w) hn h4 (by simpa only [showB] using hs) (fun t ht => Nat.le_trans (tupleText_mem_le ht) hz')
    have r : Reads s.heap (.ref a) (.tuple xs) _ := .tuple h1 h2 h3 h4
    have hna : a ∉ bs := not_mem_of_deeper r (by simp only [PyData.depth]; omega) hb
    simp only [PyData.depth] at hd
    simp only [PyData.shown] at hQ
    refine call_repr_slot ⟨_, h1, h2⟩ F.slot_tuple_repr (by omega) ?_
    exact call_tuple_reprK h1 h2 h3 hna hk hg (fun b _ => Clear.nil b) (by show A.units + 1 + _ < _; omega) (fun _ _ e => e) (fun h' u tk hk' => ⟨⟨_, _, rfl⟩, hQ h' u tk hk'⟩) hz'
  | dict => simp [showB] at hs
end
end VI
namespace VI
open PySem PySem.Spec PyProof.Rows L2
theorem call_reprD {X : Cx} (xo : XOk X) : CallR X (.builtin "repr") (fun vs H Q => ∃ v d, vs = [v] ∧ Dp X.K H v d ∧ RepOk d ∧ Q (.str d.shown) H) := by
  intro pins s σ H xs us Q I r h
  obtain ⟨v, d, rfl, hd, ⟨h1, h2, h3⟩, q⟩ := h
  obtain ⟨u, rfl, ru⟩ := vals1 r
  obtain ⟨as, rd⟩ := Dp.reads I d v u hd ru
  refine call_repr_of (xo.nodig.keeps I.bk) rd h2 (by rw [sizeLine_eq]; omega) xo.gd xo.hu (SeqAt.depth_of_shaped h1) fun h' t tk k => ⟨.str d.shown, H, I.kept k, ⟨_, rfl⟩, q⟩
end VI

/-! VI6: expressions: from the meaning to the readings. -/
namespace VI
open PySem PySem.Spec PyProof.Rows L2
section
variable {K : PySem.W.Frag} {H H1 : Hp} {w w1 : Wd} {st st1 : Sto}
theorem seq_rep (ok : WOk K H w st) {v : V} {ev : EV} (r : EVRep K H w st v ev) {k : Bool → List D → Prop} (h : seqE ev st k) :
    ∃ b ds a xs, v = .ref a ∧ (b = true → SqL K H a xs) ∧ (b = false → SqT K H a xs ∧ ev = .d (.tuple ds)) ∧ Reps K H (w.M st) xs ds ∧ k b ds := by
  unfold seqE at h
  split at h
  · cases (show Rep _ _ _ v _ from r) with
    | lst f m e => exact ⟨true, _, _, _, rfl, fun _ => SqL.of f, (fun z => nomatch z), e, h⟩
  · cases (show Rep _ _ _ v _ from r) with
    | tup f e => exact ⟨false, _, _, _, rfl, (fun z => nomatch z), fun _ => ⟨f.sq, rfl⟩, e, h⟩
  · split at h
    · rename_i e
      obtain ⟨a, q, ha⟩ := r
      obtain ⟨a', vs, h1, h2, h3⟩ := ok.l _ _ e
      rw [ha] at h1
      cases h1
      exact ⟨true, _, _, _, q, fun _ => SqL.of h2, (fun z => nomatch z), h3, h⟩
    · exact h.elim
  · split at h
    · rename_i e
      obtain ⟨a, q, ha⟩ := r
      obtain ⟨a', vs, h1, h2, h3⟩ := ok.g _ _ e
      rw [ha] at h1
      cases h1
      exact ⟨true, _, _, _, q, fun _ => SqL.of h2, (fun z => nomatch z), h3, h⟩
    · exact h.elim
  · obtain ⟨a, xs, q, f, e⟩ := r
    exact ⟨true, _, _, _, q, fun _ => f.sq, (fun z => nomatch z), e, h⟩
  · exact h.elim
theorem isEmpty_reps {M : Addr → Prop} {xs : List V} {ds : List D} (r : Reps K H M xs ds) : (!ds.isEmpty) = !xs.isEmpty := by
  cases r <;> rfl
theorem tru_rep (ok : WOk K H w st) {v : V} {ev : EV} (r : EVRep K H w st v ev) {k : Bool → Prop} (h : truE ev st k) : ∃ b, TruV K v H b ∧ k b := by
  unfold truE at h
  split at h
  · cases (show Rep _ _ _ v _ from r)
    exact ⟨_, rfl, h⟩
  · cases (show Rep _ _ _ v _ from r)
    exact ⟨_, rfl, h⟩
  · cases (show Rep _ _ _ v _ from r)
    exact ⟨_, rfl, h⟩
  · rename_i x
    cases (show Rep _ _ _ v _ from r)
    refine ⟨_, ⟨h.1, rfl⟩, ?_⟩
    have e : (((x.length : Nat) : Int) != 0) = (x.length != 0) := by
      rw [Bool.eq_iff_iff]
      simp only [bne_iff_ne, ne_eq]
      omega
    rw [e]
    exact h.2
  · obtain ⟨b, ds, a, xs, rfl, h1, h2, h3, h4⟩ := seq_rep ok r h
    rw [isEmpty_reps h3] at h4
    cases b with
    | true => exact ⟨_, .inl ⟨xs, h1 rfl, rfl⟩, h4⟩
    | false => exact ⟨_, .inr (.inl ⟨xs, (h2 rfl).1, rfl⟩), h4⟩
theorem allD_rep : ∀ {vs : List V} {evs : List EV} {k : List D → Prop}, EVReps K H w st vs evs → allD evs k → ∃ ds, Reps K H (w.M st) vs ds ∧ k ds
  | _, _, _, .nil, h => ⟨[], .nil, h⟩
  | _, _, _, .cons (d := .d x) r t, h => by
    obtain ⟨ds, q, h⟩ := allD_rep t h
    exact ⟨x :: ds, .cons r q, h⟩
  | _, _, _, .cons (d := .lm _) _ _, h => h.elim
  | _, _, _, .cons (d := .gm _) _ _, h => h.elim
  | _, _, _, .cons (d := .sc _) _ _, h => h.elim
theorem dE_rep {v : V} {ev : EV} (r : EVRep K H w st v ev) {k : D → Prop} (h : dE ev k) : ∃ d, Rep K H (w.M st) v d ∧ k d := by
  unfold dE at h
  split at h
  · exact ⟨_, r, h⟩
  · exact h.elim
theorem bools_rep {M : Addr → Prop} : ∀ {xs : List V} {ds : List D} {k : List Bool → Prop}, Reps K H M xs ds → boolsE ds k → ∃ bs, xs = bs.map V.bl ∧ k bs
  | _, _, _, .nil, h => ⟨[], rfl, h⟩
  | _, _, _, .cons (d := .bool b) r t, h => by
    cases r
    obtain ⟨bs, e, h⟩ := bools_rep t h
    exact ⟨b :: bs, by rw [e]; rfl, h⟩
  | _, _, _, .cons (d := .none) _ _, h => h.elim
  | _, _, _, .cons (d := .int _) _ _, h => h.elim
  | _, _, _, .cons (d := .str _) _ _, h => h.elim
  | _, _, _, .cons (d := .list _) _ _, h => h.elim
  | _, _, _, .cons (d := .tuple _) _ _, h => h.elim
  | _, _, _, .cons (d := .dict _) _ _, h => h.elim
theorem evreps1 {vs : List V} {e : EV} (r : EVReps K H w st vs [e]) : ∃ v, vs = [v] ∧ EVRep K H w st v e := by
  cases r with
  | cons a b => cases b; exact ⟨_, rfl, a⟩
theorem evreps2 {vs : List V} {e f : EV} (r : EVReps K H w st vs [e, f]) : ∃ v u, vs = [v, u] ∧ EVRep K H w st v e ∧ EVRep K H w st u f := by
  cases r with
  | cons a b => cases b with
    | cons c d => cases d; exact ⟨_, _, rfl, a, c⟩
theorem evreps3 {vs : List V} {e f g : EV} (r : EVReps K H w st vs [e, f, g]) : ∃ v u x, vs = [v, u, x] ∧ EVRep K H w st v e ∧ EVRep K H w st u f ∧ EVRep K H w st x g := by
  cases r with
  | cons a b => cases b with
    | cons c d => cases d with
      | cons i j => cases j; exact ⟨_, _, _, rfl, a, c, i⟩
theorem valsT3 {x y z : V} {us : List Value} (r : Vals [x, y, z] us) : ∃ u w' t', us = [u, w', t'] ∧ RelV x u ∧ RelV y w' ∧ RelV z t' := by
  cases r with
  | cons a r => cases r with
    | cons b r => cases r with
      | cons c r => cases r; exact ⟨_, _, _, rfl, a, b, c⟩
theorem reps_ints : ∀ {ns : List Int} {vs : List V}, Reps K H M vs (ns.map PyData.int) → vs = ns.map V.int
  | [], _, .nil => rfl
  | t :: ts, _, .cons (.int _) r => by rw [reps_ints r]; rfl
end
/-! ### built-ins -/
def bltV : Blt → Value
  | .str => .type "str" | .len => .builtin "len" | .abs => .builtin "abs" | .int => .type "int" | .min2 => .builtin "min" | .max2 => .builtin "max" | .gcd => .builtin "math.gcd" | .isqrt => .builtin "math.isqrt"
  | .all => .builtin "all" | .any => .builtin "any" | .tuple => .type "tuple" | .list => .type "list" | .repr => .builtin "repr"
  | .min3 => .builtin "min" | .max3 => .builtin "max" | .maxL => .builtin "max" | .minL => .builtin "min"
def rBlt (K : PySem.W.Frag) (b : Blt) (kd : Nat) : List V → Hp → VK → Prop := fun vs H Q => ∃ w st evs, WOk K H w st ∧ EVReps K H w st vs evs ∧ bltK b kd evs st (PostW K H w st Q)
theorem abs_eq (i : Int) : (if i < 0 then -i else i) = ((i.natAbs : Nat) : Int) := by split <;> omega
theorem max_eq (i j : Int) : (if j > i then j else i) = max i j := by
  rw [Int.max_def]
  split <;> split <;> omega
theorem min_eq (i j : Int) : (if j < i then j else i) = min i j := by
  rw [Int.min_def]
  split <;> split <;> omega
section
variable {X : Cx}
def rIsqrt : List V → Hp → VK → Prop := fun vs H Q => ∃ a : Int, vs = [.int a] ∧ 0 ≤ a ∧ a.natAbs.log2 < 13000 ∧ ∀ k : Int, 0 ≤ k → k * k ≤ a → a < (k + 1) * (k + 1) → Q (.int k) H
theorem cr_isqrt : CallR X (.builtin "math.isqrt") rIsqrt := by
  intro pins s σ H vs us Q I r h
  obtain ⟨a, rfl, h0, hl, q⟩ := h
  obtain ⟨u, rfl, ⟨t, rfl⟩⟩ := Vals.one r
  have e : a.toNat = a.natAbs := by omega
  have hs := PySem.Float64.isqrt_spec a.toNat
  refine PySem.call_function_meets PySem.W.MGF.kind_isqrt PySem.W.MGF.plain_isqrt PySem.W.MGF.entry_isqrt (PySem.W.MGF.args_isqrt _) (PySem.W.mg_run_isqrt a t (by omega) (by rw [e]; omega) (by rw [e]; omega)).meets ⟨.int _, H, I.tok _, ⟨_, rfl⟩, q _ (Int.natCast_nonneg _) ?_ ?_⟩
  · have := hs.1
    have z : ((PySem.Float64.isqrt a.toNat * PySem.Float64.isqrt a.toNat : Nat) : Int) ≤ (a.toNat : Int) := by exact_mod_cast this
    rw [Int.natCast_mul] at z
    omega
  · have := hs.2
    have z : (a.toNat : Int) < (((PySem.Float64.isqrt a.toNat + 1) * (PySem.Float64.isqrt a.toNat + 1) : Nat) : Int) := by exact_mod_cast this
    rw [Int.natCast_mul, Int.natCast_add] at z
    have z : (a.toNat : Int) < ((PySem.Float64.isqrt a.toNat : Nat) + 1 : Int) * ((PySem.Float64.isqrt a.toNat : Nat) + 1 : Int) := z
    omega
theorem call_str_any (xo : XOk X) : CallR X (.type "str") (fun xs H Q => ∃ i, xs = [.int i] ∧ (i.natAbs.log2 < 1920 ∨ BigOk i) ∧ Q (.str (toString i)) H) := by
  intro pins s σ H xs us Q I r h
  obtain ⟨i, rfl, hz, q⟩ := h
  rcases hz with hz | hz
  · exact call_str_int pins s σ H _ us Q I r ⟨_, rfl, hz, q⟩
  · obtain ⟨u, rfl, t, rfl⟩ := vals1 r
    exact str_of_int_or (I.ok.hd xo.calm) (xo.nodig.keeps I.bk) (fun _ => ⟨.str _, H, I.tok _, ⟨_, rfl⟩, q⟩) fun z => absurd hz (Nat.not_lt.mpr z)
theorem call_blt (xo : XOk X) (b : Blt) (kd : Nat) : CallR X (bltV b) (rBlt X.K b kd) := by
  intro pins s σ H xs us Q I r h
  obtain ⟨w, st, evs, ok, er, q⟩ := h
  unfold bltK at q
  split at q
  · obtain ⟨v, rfl, r1⟩ := evreps1 er
    cases (show Rep _ _ _ v _ from r1)
    exact call_str_any xo pins s σ H _ us Q I r ⟨_, rfl, q.1, q.2 _ H w Le.refl ok (.str _)⟩
  · obtain ⟨v, rfl, r1⟩ := evreps1 er
    cases (show Rep _ _ _ v _ from r1)
    exact SkE.call_str_str pins s σ H _ us Q I r ⟨_, rfl, q _ H w Le.refl ok (.str _)⟩
  · obtain ⟨v, rfl, r1⟩ := evreps1 er
    cases (show Rep _ _ _ v _ from r1)
    exact call_len pins s σ H _ us Q I r ⟨_, _, rfl, ⟨q.1, rfl⟩, q.2 _ H w Le.refl ok (.int _)⟩
  · obtain ⟨v, rfl, r1⟩ := evreps1 er
    obtain ⟨b, ds, a, ys, rfl, h1, h2, h3, h4⟩ := seq_rep ok r1 q
    have e := h3.length
    cases b with
    | true => exact call_len pins s σ H _ us Q I r ⟨_, _, rfl, .inl ⟨_, h1 rfl, rfl⟩, h4 _ H w Le.refl ok (by rw [e]; exact Rep.int _)⟩
    | false => exact call_len pins s σ H _ us Q I r ⟨_, _, rfl,   .inr ⟨_, (h2 rfl).1, rfl⟩, h4 _ H w Le.refl ok (by rw [e]; exact Rep.int _)⟩
  · obtain ⟨v, rfl, r1⟩ := evreps1 er
    cases (show Rep _ _ _ v _ from r1)
    exact call_abs pins s σ H _ us Q I r ⟨_, rfl, q _ H w Le.refl ok (by rw [abs_eq]; exact Rep.int _)⟩
  · obtain ⟨v, rfl, r1⟩ := evreps1 er
    cases (show Rep _ _ _ v _ from r1)
    exact call_int1 pins s σ H _ us Q I r (.inl ⟨_, rfl, q _ H w Le.refl ok (Rep.int _)⟩)
  · obtain ⟨v, rfl, r1⟩ := evreps1 er
    cases (show Rep _ _ _ v _ from r1)
    exact call_int1 pins s σ H _ us Q I r (.inr ⟨_, rfl, q _ H w Le.refl ok (Rep.int _)⟩)
  · obtain ⟨v, u, rfl, r1, r2⟩ := evreps2 er
    cases (show Rep _ _ _ v _ from r1)
    cases (show Rep _ _ _ u _ from r2)
    exact call_min2 xo.calm pins s σ H _ us Q I r ⟨_, _, rfl, q _ H w Le.refl ok (by rw [min_eq]; exact Rep.int _)⟩
  · obtain ⟨v, u, rfl, r1, r2⟩ := evreps2 er
    cases (show Rep _ _ _ v _ from r1)
    cases (show Rep _ _ _ u _ from r2)
    exact call_max2 xo.calm pins s σ H _ us Q I r ⟨_, _, rfl, q _ H w Le.refl ok (by rw [max_eq]; exact Rep.int _)⟩
  · obtain ⟨v, u, rfl, r1, r2⟩ := evreps2 er
    cases (show Rep _ _ _ v _ from r1)
    cases (show Rep _ _ _ u _ from r2)
    exact cr_gcd pins s σ H _ us Q I r ⟨_, _, rfl, q _ H w Le.refl ok (Rep.int _)⟩
  · obtain ⟨v, rfl, r1⟩ := evreps1 er
    cases (show Rep _ _ _ v _ from r1)
    exact cr_isqrt pins s σ H _ us Q I r ⟨_, rfl, q.1.1, q.1.2, fun k a b c => q.2 k a b c _ H w Le.refl ok (Rep.int _)⟩
  · obtain ⟨v, rfl, r1⟩ := evreps1 er
    obtain ⟨b, ds, a, ys, rfl, h1, h2, h3, hb, h4⟩ := seq_rep ok r1 q
    obtain ⟨bs, e, h4⟩ := bools_rep h3 h4
    subst e
    exact cr_all xo.calm pins s σ H _ us Q I r ⟨_, _, rfl, h1 hb, h4 _ H w Le.refl ok (Rep.bl _)⟩
  · obtain ⟨v, rfl, r1⟩ := evreps1 er
    obtain ⟨b, ds, a, ys, rfl, h1, h2, h3, hb, h4⟩ := seq_rep ok r1 q
    obtain ⟨bs, e, h4⟩ := bools_rep h3 h4
    subst e
    exact cr_any xo.calm pins s σ H _ us Q I r ⟨_, _, rfl, h1 hb, h4 _ H w Le.refl ok (Rep.bl _)⟩
  · obtain ⟨v, rfl, r1⟩ := evreps1 er
    obtain ⟨b, ds, a, ys, rfl, h1, h2, h3, h4⟩ := seq_rep ok r1 q
    cases b with
    | true =>
      refine call_tuple_of pins s σ H _ us Q I r ⟨_, _, rfl, .inl ⟨h1 rfl, fun l n => ?_⟩⟩
      obtain ⟨x, y, z⟩ := new_tup n ok h3
      exact h4 _ _ w x y z
    | false =>
      obtain ⟨g1, g2⟩ := h2 rfl
      subst g2
      exact call_tuple_of pins s σ H _ us Q I r ⟨_, _, rfl, .inr ⟨g1, h4 _ H w Le.refl ok r1⟩⟩
  · obtain ⟨v, rfl, r1⟩ := evreps1 er
    obtain ⟨b, ds, a, ys, rfl, h1, h2, h3, h4⟩ := seq_rep ok r1 q
    have hs : SqL X.K H a ys ∨ SqT X.K H a ys := by
      cases b with
      | true => exact .inl (h1 rfl)
      | false => exact .inr (h2 rfl).1
    refine call_list_of pins s σ H _ us Q I r ⟨_, _, rfl, hs, fun l n => ?_⟩
    obtain ⟨ev, w', st', x, y, z, h⟩ := new_lst n ok h3 h4
    exact h _ _ w' x y z
  · obtain ⟨v, rfl, r1⟩ := evreps1 er
    exact call_reprD xo pins s σ H _ us Q I r ⟨_, _, rfl, Rep.dp r1, q.1, q.2 _ H w Le.refl ok (Rep.str _)⟩
  · obtain ⟨v, u, x, rfl, r1, r2, r3⟩ := evreps3 er
    cases (show Rep _ _ _ v _ from r1)
    cases (show Rep _ _ _ u _ from r2)
    cases (show Rep _ _ _ x _ from r3)
    rename_i i j m
    obtain ⟨u1, u2, u3, rfl, ⟨t1, rfl⟩, ⟨t2, rfl⟩, ⟨t3, rfl⟩⟩ := valsT3 r
    refine min_three_ints (I.ok.hd xo.calm) fun h' tk k => ?_
    have e : ∃ t, (if j < i then (if m < j then Value.int m t3 else .int j t2) else (if m < i then Value.int m t3 else .int i t1)) = .int (min i (min j m)) t := by
      split <;> split
      · exact ⟨t3, by congr 1; omega⟩
      · exact ⟨t2, by congr 1; omega⟩
      · exact ⟨t3, by congr 1; omega⟩
      · exact ⟨t1, by congr 1; omega⟩
    obtain ⟨t, e⟩ := e
    rw [e]
    exact ⟨.int _, H, I.kept k, ⟨t, rfl⟩, q _ H w Le.refl ok (Rep.int _)⟩
  · obtain ⟨v, u, x, rfl, r1, r2, r3⟩ := evreps3 er
    cases (show Rep _ _ _ v _ from r1)
    cases (show Rep _ _ _ u _ from r2)
    cases (show Rep _ _ _ x _ from r3)
    rename_i i j m
    obtain ⟨u1, u2, u3, rfl, ⟨t1, rfl⟩, ⟨t2, rfl⟩, ⟨t3, rfl⟩⟩ := valsT3 r
    refine max_three_ints (I.ok.hd xo.calm) fun h' tk k => ?_
    have e : ∃ t, (if j > i then (if m > j then Value.int m t3 else .int j t2) else (if m > i then Value.int m t3 else .int i t1)) = .int (max i (max j m)) t := by
      split <;> split
      · exact ⟨t3, by congr 1; omega⟩
      · exact ⟨t2, by congr 1; omega⟩
      · exact ⟨t3, by congr 1; omega⟩
      · exact ⟨t1, by congr 1; omega⟩
    obtain ⟨t, e⟩ := e
    rw [e]
    exact ⟨.int _, H, I.kept k, ⟨t, rfl⟩, q _ H w Le.refl ok (Rep.int _)⟩
  · obtain ⟨v, rfl, r1⟩ := evreps1 er
    obtain ⟨ns, ⟨rfl, hne⟩, q⟩ := q
    cases (show Rep _ _ _ v _ from r1) with
    | lst hl nm rs =>
      have ev := reps_ints rs
      subst ev
      exact cr_max xo.calm pins s σ H _ us Q I r ⟨_, ns, rfl, SqL.of hl, List.length_pos_iff.mpr hne, fun m a b => q m a b _ H w Le.refl ok (Rep.int _)⟩
  · obtain ⟨v, rfl, r1⟩ := evreps1 er
    obtain ⟨ns, ⟨rfl, hne⟩, q⟩ := q
    cases (show Rep _ _ _ v _ from r1) with
    | lst hl nm rs =>
      have ev := reps_ints rs
      subst ev
      exact cr_min xo.calm pins s σ H _ us Q I r ⟨_, ns, rfl, SqL.of hl, List.length_pos_iff.mpr hne, fun m a b => q m a b _ H w Le.refl ok (Rep.int _)⟩
  · exact q.elim
end
end VI

/-! VI7: the call of a def, in frames that are under no guard. -/
namespace VI
open PySem PySem.Spec PyProof.Rows L2
/-- a def's promise by its meaning -/
def spG (K : PySem.W.Frag) (ar : Nat) (f : Sem) : Sp := fun vs H Q _ => vs.length = ar ∧ ∃ w g evs, w.la = [] ∧ WOk K H w ⟨g, []⟩ ∧ EVReps K H w ⟨g, []⟩ vs evs ∧
  f evs g fun ev g' => ∀ v H' w', w'.la = [] → Le H w ⟨g, []⟩ H' w' ⟨g', []⟩ → WOk K H' w' ⟨g', []⟩ → EVRep K H' w' ⟨g', []⟩ v ev → Q v H'
structure FnOkG (P : Program) (w : World) (K : PySem.W.Frag) (mg : Str → Option Value) (base : Heap) (k : Nat) (f : Addr) (fd : FuncData) (ps : List Str) (sp : Sp) : Prop where
  len : ∀ vs H Q E, sp vs H Q E → vs.length = ps.length
  run : ∀ (A : Around) (outer : List Env) (s : Shared) (H : Hp) (args : Args) (us : List Value) (vs : List V) (Q : VK) (E : XK), Room k A → A.guards = some [] → Env0 P w K mg base A outer s H → BindsTo s fd args (ps.zip us) → Vals vs us → sp vs H Q E →
    codeAny (model P w) A (.call (.ref f) args) (CR CX0 outer P w H s Q E) s
section
variable {X : Cx} {k : Nat} {f : Addr} {fd : FuncData} {ps : List Str} {sp : Sp} {x : Str} {p pos : Pos} {e : Expr} {es : List Expr} {t : TA}
theorem run_fnG {pins : List (Addr × Obj)} {σ : L2.St} {H : Hp} {s : Shared} {Q : VK} {us : List Value} {vs : List V} (F : FnOkG X.prog X.w X.K X.mg X.base k f fd ps sp) (hr : Room k X.A) (hg : X.A.guards = some []) (hb : Binds X.K fd ps [])
    (I : Inv X pins σ H s) (r : Vals vs us) (h : sp vs H Q E0) : wpAny (model X.prog X.w) X.A (call (.ref f) us) (EP X pins σ Q) X.xe s := by
  have hl : (us ++ []).length = ps.length := by rw [List.append_nil, ← r.length]; exact F.len _ _ _ _ h
  have hb2 := hb s us I.kIn hl
  rw [List.append_nil] at hb2
  refine wpAny_call (codeAny_mono (F.run X.A X.stack s H ⟨us, []⟩ us vs Q E0 hr hg I.env0 hb2 r h) fun r s' hq => ?_)
  cases r with
  | error e => exact False.elim hq
  | ok fl =>
    cases fl with
    | ret u => exact I.after hq
    | next => exact False.elim hq
    | brk => exact False.elim hq
    | cont => exact False.elim hq
theorem pe_callG (F : FnOkG X.prog X.w X.K X.mg X.base k f fd ps sp) (hr : Room k X.A) (hgd : X.A.guards = some []) (hg : Gl X x) (hm : X.mg x = some (.ref f)) (hk : PySem.W.keepIn X.K (.ref f) = true) (hb : Binds X.K fd ps [])
    (ha : PA X (e :: es) t) (hdb : (x == ("__debug__" : Str)) = false) (he : starEach (e :: es) X.env = (false, eval e X.env) :: starEach es X.env) (hpl : (backTo pos (starEach es X.env)).any (·.1) = false) :
    PE X (.Call (.Name x p) (e :: es) [] pos) (tCall sp [] E0 t) := by
  refine ⟨fun pins s σ H Q I h => ?_⟩
  refine wpAny_Call_Name_kw (ld_glob I hg hm ?_ hdb)
  refine PySem.W.callWith_K (h₀ := X.base) I.ok.mod.kin hk (thn (ha.run pos pins s σ H _ I h) fun us s1 ⟨vs, H1, I1, r, q⟩ => ⟨I1.kIn, ?_⟩) he hpl
  have q : sp (vs ++ []) H1 Q E0 := q
  rw [List.append_nil] at q
  exact run_fnG F hr hgd hb I1 r q
theorem pe_callGS (F : FnOkG X.prog X.w X.K X.mg X.base k f fd ps sp) (hr : Room k X.A) (hgd : X.A.guards = some []) (hg : Gl X x) (hm : X.mg x = some (.ref f)) (hk : PySem.W.keepIn X.K (.ref f) = true) (hb : Binds X.K fd ps [])
    (ha : PA X (e :: es) t) (hdb : (x == ("__debug__" : Str)) = false) (he : starEach (e :: es) X.env = (false, eval e X.env) :: starEach es X.env) (hst : (backTo pos (starEach es X.env)).any (·.1) = true) :
    PE X (.Call (.Name x p) (e :: es) [] pos) (fun σ H Q => t σ H fun vs H1 => sp vs H1 Q E0) := by
  refine ⟨fun pins s σ H Q I h => ?_⟩
  refine wpAny_Call_Name_kw (ld_glob I hg hm ?_ hdb)
  refine PySem.W.callWith_S2 (h₀ := X.base) I.ok.mod.kin hk (thn (ha.run pos pins s σ H _ I h) fun us s1 ⟨vs, H1, I1, r, q⟩ => ⟨I1.kIn, ?_⟩) he hst
  exact run_fnG F hr hgd hb I1 r q
theorem pe_callG0 (F : FnOkG X.prog X.w X.K X.mg X.base k f fd ps sp) (hr : Room k X.A) (hgd : X.A.guards = some []) (hg : Gl X x) (hm : X.mg x = some (.ref f)) (hk : PySem.W.keepIn X.K (.ref f) = true) (hb : Binds X.K fd ps [])
    (hdb : (x == ("__debug__" : Str)) = false) : PE X (.Call (.Name x p) [] [] pos) (tCall sp [] E0 tNil) := by
  refine ⟨fun pins s σ H Q I h => ?_⟩
  refine wpAny_Call_Name_kw (ld_glob I hg hm ?_ hdb)
  exact PySem.W.callWith_K0 I.kIn hk (run_fnG (us := []) F hr hgd hb I .nil h)
end
/-! ### from a frame's world to a callee's -/
def Wd.inner (w : Wd) (st : Sto) : Wd := ⟨w.mu, [], fun a => w.F a ∨ ∃ (n : Nat) (xs : List D), w.la[n]? = some a ∧ st.l[n]? = some (some xs)⟩
section
variable {K : PySem.W.Frag} {H H1 : Hp} {w w1 : Wd} {st st1 : Sto} {g : List (List D)}
theorem inner_M {a : Addr} : (w.inner st).M ⟨st.g, []⟩ a ↔ w.M st a := by
  unfold Wd.M Wd.inner
  simp only [List.getElem?_nil, reduceCtorEq, false_and, exists_false, false_or]
  constructor
  · rintro (h | h | h)
    · exact .inl h
    · exact .inr (.inr h)
    · exact .inr (.inl h)
  · rintro (h | h | h)
    · exact .inl h
    · exact .inr (.inr h)
    · exact .inr (.inl h)
theorem nodup_parts {α : Type} {l m : List α} (h : (l ++ m).Nodup) {a : α} (h1 : a ∈ l) (h2 : a ∈ m) : False := by
  rw [List.nodup_append] at h
  exact h.2.2 a h1 a h2 rfl
theorem nodup_ix {α : Type} : ∀ {l : List α} {i j : Nat} {a : α}, l.Nodup → l[i]? = some a → l[j]? = some a → i = j
  | [], _, _, _, _, h, _ => by simp at h
  | x :: r, 0, 0, _, _, _, _ => rfl
  | x :: r, 0, j + 1, a, n, h1, h2 => by
    simp at h1 h2
    subst h1
    exact absurd (List.mem_iff_getElem?.mpr ⟨j, h2⟩) (List.nodup_cons.mp n).1
  | x :: r, i + 1, 0, a, n, h1, h2 => by
    simp at h1 h2
    subst h2
    exact absurd (List.mem_iff_getElem?.mpr ⟨i, h1⟩) (List.nodup_cons.mp n).1
  | x :: r, i + 1, j + 1, a, n, h1, h2 => by
    have := nodup_ix (i := i) (j := j) (List.nodup_cons.mp n).2 (by simpa using h1) (by simpa using h2)
    omega
theorem WOk.inner (ok : WOk K H w st) : WOk K H (w.inner st) ⟨st.g, []⟩ := by
  refine ⟨ok.lg, rfl, fun n xs h => ?_, fun n xs h => ?_, fun n a h => ?_, ?_, fun a h => ?_⟩
  · obtain ⟨a, vs, e, z, r⟩ := ok.g n xs h
    exact ⟨a, vs, e, z, r.conv fun b o hb m => ⟨hb, fun q => m (inner_M.mp q)⟩⟩
  · simp at h
  · simp at h
  · show (w.mu ++ []).Nodup
    rw [List.append_nil]
    exact ok.nd.sublist (List.sublist_append_left _ _)
  · rcases h with h | ⟨n, xs, h, h2⟩
    · obtain ⟨q1, q2, _⟩ := ok.fF a h
      exact ⟨q1, q2, fun z => by cases z⟩
    · obtain ⟨a', vs, e, z, _⟩ := ok.l n xs h2
      rw [h] at e
      cases e
      exact ⟨⟨_, z⟩, fun m => nodup_parts ok.nd m (List.mem_iff_getElem?.mpr ⟨n, h⟩), fun z => by cases z⟩
theorem EVReps.inner : ∀ {vs : List V} {evs : List EV} {p : Prop}, EVReps K H w st vs evs → argsK evs p → EVReps K H (w.inner st) ⟨st.g, []⟩ vs evs ∧ p
  | _, _, _, .nil, h => ⟨.nil, h⟩
  | _, _, _, .cons (d := .d x) r t, h => let ⟨q, h⟩ := EVReps.inner t h; ⟨.cons (show Rep K H _ _ x from Rep.conv (fun b o hb m => ⟨hb, fun q => m (inner_M.mp q)⟩) r) q, h⟩
  | _, _, _, .cons (d := .gm n) r t, h => let ⟨q, h⟩ := EVReps.inner t h; ⟨.cons (show EVRep K H _ _ _ (.gm n) from r) q, h⟩
  | _, _, _, .cons (d := .sc ds) r t, h => by
    obtain ⟨q, h⟩ := EVReps.inner t h
    obtain ⟨a, xs, e, f, z⟩ := r
    exact ⟨.cons ⟨a, xs, e, f.conv fun b o hb m => ⟨hb, fun q => m (inner_M.mp q)⟩, z.conv fun b o hb m => ⟨hb, fun q => m (inner_M.mp q)⟩⟩ q, h⟩
  | _, _, _, .cons (d := .lm n) _ _, h => h.elim
/-! ### a call that reads a list of the frame's own -/
def Wd.innerG (w : Wd) (st : Sto) (a : Addr) : Wd := ⟨w.mu ++ [a], [], fun b => w.F b ∨ ∃ (n : Nat) (xs : List D), w.la[n]? = some b ∧ st.l[n]? = some (some xs) ∧ b ≠ a⟩
theorem innerG_M {a b : Addr} {m : Nat} {ys : List D} (ha : w.la[m]? = some a) (hl : st.l[m]? = some (some ys)) : (w.innerG st a).M ⟨st.g ++ [ys], []⟩ b ↔ w.M st b := by
  unfold Wd.M Wd.innerG
  simp only [List.getElem?_nil, reduceCtorEq, false_and, exists_false, false_or, List.mem_append, List.mem_singleton]
  constructor
  · rintro ((h | h) | (h | ⟨n, xs, h1, h2, _⟩))
    · exact .inl h
    · subst h
      exact .inr (.inl ⟨m, ys, ha, hl⟩)
    · exact .inr (.inr h)
    · exact .inr (.inl ⟨n, xs, h1, h2⟩)
  · rintro (h | ⟨n, xs, h1, h2⟩ | h)
    · exact .inl (.inl h)
    · by_cases e : b = a
      · exact .inl (.inr e)
      · exact .inr (.inr ⟨n, xs, h1, h2, e⟩)
    · exact .inr (.inl h)
theorem WOk.innerG {a : Addr} {m : Nat} {ys : List D} (ok : WOk K H w st) (ha : w.la[m]? = some a) (hl : st.l[m]? = some (some ys)) : WOk K H (w.innerG st a) ⟨st.g ++ [ys], []⟩ := by
  have cv : ∀ b o, H b = some o → ¬ w.M st b → H b = some o ∧ ¬ (w.innerG st a).M ⟨st.g ++ [ys], []⟩ b := fun b o hb m => ⟨hb, fun q => m ((innerG_M ha hl).mp q)⟩
  have hmem : a ∈ w.la := List.mem_iff_getElem?.mpr ⟨m, ha⟩
  refine ⟨?_, rfl, fun n xs h => ?_, fun n xs h => ?_, fun n a h => ?_, ?_, fun b h => ?_⟩
  · show (w.mu ++ [a]).length = (st.g ++ [ys]).length
    rw [List.length_append, List.length_append, ok.lg]
    rfl
  · have h : (st.g ++ [ys])[n]? = some xs := h
    show ∃ b vs, (w.mu ++ [a])[n]? = some b ∧ _
    by_cases hn : n < st.g.length
    · rw [List.getElem?_append_left hn] at h
      obtain ⟨b, vs, e, z, r⟩ := ok.g n xs h
      exact ⟨b, vs, pre_get ⟨[a], rfl⟩ e, z, r.conv cv⟩
    · have hn2 : n = st.g.length := by
        have := (List.getElem?_eq_some_iff.mp h).1
        rw [List.length_append] at this
        simp at this
        omega
      subst hn2
      rw [List.getElem?_append_right (Nat.le_refl _), Nat.sub_self] at h
      have h : some ys = some xs := h
      cases h
      obtain ⟨b, vs, e, z, r⟩ := ok.l m ys hl
      rw [ha] at e
      cases e
      refine ⟨a, vs, ?_, z, r.conv cv⟩
      rw [List.getElem?_append_right (by rw [ok.lg]; exact Nat.le_refl _), ok.lg, Nat.sub_self]
      rfl
  · simp at h
  · simp at h
  · show ((w.mu ++ [a]) ++ []).Nodup
    rw [List.append_nil]
    have n1 := ok.nd.sublist (List.sublist_append_left _ _)
    rw [List.nodup_append]
    refine ⟨n1, by simp, fun x hx y hy e => ?_⟩
    rw [List.mem_singleton.mp hy] at e
    subst e
    exact nodup_parts ok.nd hx hmem
  · have nm : ∀ b, b ≠ a → b ∉ w.mu → b ∉ w.mu ++ [a] := fun b h1 h2 q => (List.mem_append.mp q).elim h2 fun z => h1 (List.mem_singleton.mp z)
    rcases h with h | ⟨n, xs, h, h2, h3⟩
    · obtain ⟨q1, q2, q3⟩ := ok.fF b h
      exact ⟨q1, nm b (fun e => q3 (by rw [e]; exact hmem)) q2, fun z => by cases z⟩
    · obtain ⟨b', vs, e, z, _⟩ := ok.l n xs h2
      rw [h] at e
      cases e
      exact ⟨⟨_, z⟩, nm b h3 fun m => nodup_parts ok.nd m (List.mem_iff_getElem?.mpr ⟨n, h⟩), fun z => by cases z⟩
theorem EVReps.inG {a : Addr} {m : Nat} {ys : List D} (ok : WOk K H w st) (ha : w.la[m]? = some a) (hl : st.l[m]? = some (some ys)) : ∀ {vs : List V} {evs : List EV} {p : Prop}, EVReps K H w st vs evs → argsK evs p → EVReps K H (w.innerG st a) ⟨st.g ++ [ys], []⟩ vs evs ∧ p
  | _, _, _, .nil, h => ⟨.nil, h⟩
  | _, _, _, .cons (d := .d x) r t, h => let ⟨q, h⟩ := EVReps.inG ok ha hl t h; ⟨.cons (show Rep K H _ _ x from Rep.conv (fun b o hb m => ⟨hb, fun q => m ((innerG_M ha hl).mp q)⟩) r) q, h⟩
  | _, _, _, .cons (d := .gm n) r t, h => by
    obtain ⟨q, h⟩ := EVReps.inG ok ha hl t h
    obtain ⟨b, e, z⟩ := r
    exact ⟨.cons (show EVRep K H _ _ _ (.gm n) from ⟨b, e, pre_get ⟨[a], rfl⟩ z⟩) q, h⟩
  | _, _, _, .cons (d := .sc ds) r t, h => by
    obtain ⟨q, h⟩ := EVReps.inG ok ha hl t h
    obtain ⟨b, xs, e, f, z⟩ := r
    exact ⟨.cons ⟨b, xs, e, f.conv fun b o hb m => ⟨hb, fun q => m ((innerG_M ha hl).mp q)⟩, z.conv fun b o hb m => ⟨hb, fun q => m ((innerG_M ha hl).mp q)⟩⟩ q, h⟩
  | _, _, _, .cons (d := .lm n) _ _, h => h.elim
/-- which list is handed on -/
theorem liftK_rep (ok : WOk K H w st) : ∀ {vs : List V} {evs : List EV} {p : Nat → List EV → Prop}, EVReps K H w st vs evs → liftK st.g.length evs p →
    ∃ m es, p m es ∧ ∀ a ys, w.la[m]? = some a → st.l[m]? = some (some ys) → EVReps K H (w.innerG st a) ⟨st.g ++ [ys], []⟩ vs es
  | _, _, _, .nil, h => h.elim
  | _, _, _, .cons (d := .lm n) (ds := ds) r t, h => by
    have h : argsK _ _ := h
    refine ⟨n, .gm st.g.length :: ds, ?_, fun a ys ha hl => ?_⟩
    · exact (EVReps.inner t h).2
    · obtain ⟨q, _⟩ := EVReps.inG ok ha hl t h
      obtain ⟨b, e, z⟩ := r
      rw [ha] at z
      cases z
      refine .cons ⟨a, e, ?_⟩ q
      show (w.mu ++ [a])[st.g.length]? = some a
      rw [List.getElem?_append_right (by rw [ok.lg]; exact Nat.le_refl _), ok.lg, Nat.sub_self]
      rfl
  | _, _, _, .cons (d := .d x) r t, h => by
    obtain ⟨m, es, q, z⟩ := liftK_rep ok t h
    exact ⟨m, _, q, fun a ys ha hl => .cons (show Rep K H _ _ x from Rep.conv (fun b o hb m => ⟨hb, fun q => m ((innerG_M ha hl).mp q)⟩) r) (z a ys ha hl)⟩
  | _, _, _, .cons (d := .gm n) r t, h => by
    obtain ⟨m, es, q, z⟩ := liftK_rep ok t h
    obtain ⟨b, e, y⟩ := r
    exact ⟨m, _, q, fun a ys ha hl => .cons (show EVRep K H _ _ _ (.gm n) from ⟨b, e, pre_get ⟨[a], rfl⟩ y⟩) (z a ys ha hl)⟩
  | _, _, _, .cons (d := .sc ds) r t, h => by
    obtain ⟨m, es, q, z⟩ := liftK_rep ok t h
    obtain ⟨b, xs, e, f, y⟩ := r
    exact ⟨m, _, q, fun a ys ha hl => .cons ⟨b, xs, e, f.conv fun b o hb m => ⟨hb, fun q => m ((innerG_M ha hl).mp q)⟩, y.conv fun b o hb m => ⟨hb, fun q => m ((innerG_M ha hl).mp q)⟩⟩ (z a ys ha hl)⟩
theorem outerG {a : Addr} {m : Nat} {ys ys' : List D} {g0 : List (List D)} (ok : WOk K H w st) (ha : w.la[m]? = some a) (hls : st.l[m]? = some (some ys)) (hl : w1.la = []) (le : Le H (w.innerG st a) ⟨st.g ++ [ys], []⟩ H1 w1 ⟨g0 ++ [ys'], []⟩) (ok1 : WOk K H1 w1 ⟨g0 ++ [ys'], []⟩) (hg : g0.length = st.g.length) :
    Le H w st H1 w ⟨g0, st.l.set m (some ys')⟩ ∧ WOk K H1 w ⟨g0, st.l.set m (some ys')⟩ ∧ ∀ v x, Rep K H1 (w1.M ⟨g0 ++ [ys'], []⟩) v x → Rep K H1 (w.M ⟨g0, st.l.set m (some ys')⟩) v x := by
  have hF : w1.F = fun b => w.F b ∨ ∃ (n : Nat) (xs : List D), w.la[n]? = some b ∧ st.l[n]? = some (some xs) ∧ b ≠ a := le.F
  have hm : m < st.l.length := (List.getElem?_eq_some_iff.mp hls).1
  have hmu : w1.mu = w.mu ++ [a] := by
    obtain ⟨t, e⟩ := le.mu
    have e : w1.mu = (w.mu ++ [a]) ++ t := e
    have l1 := ok1.lg
    have l1 : w1.mu.length = (g0 ++ [ys']).length := l1
    rw [e, List.length_append, List.length_append, List.length_append, hg, ok.lg] at l1
    have : t.length = 0 := by simp only [List.length_cons, List.length_nil] at l1; omega
    rw [e, List.eq_nil_of_length_eq_zero this, List.append_nil]
  have live : ∀ (n : Nat), (∃ xs : List D, (st.l.set m (some ys'))[n]? = some (some xs)) ↔ ∃ xs : List D, st.l[n]? = some (some xs) := fun n => by
    by_cases e : m = n
    · subst e
      rw [List.getElem?_set_self hm]
      exact ⟨fun _ => ⟨ys, hls⟩, fun _ => ⟨ys', rfl⟩⟩
    · rw [List.getElem?_set_ne e]
  have hM : ∀ b, w.M ⟨g0, st.l.set m (some ys')⟩ b ↔ w1.M ⟨g0 ++ [ys'], []⟩ b := fun b => by
    unfold Wd.M
    simp only [List.getElem?_nil, reduceCtorEq, and_false, exists_false, false_or]
    rw [hF, hmu]
    simp only [List.mem_append, List.mem_singleton]
    constructor
    · rintro (h | ⟨n, xs, h1, h2⟩ | h)
      · exact .inl (.inl h)
      · by_cases e : b = a
        · exact .inl (.inr e)
        · obtain ⟨xs', h3⟩ := (live n).mp ⟨xs, h2⟩
          exact .inr (.inr ⟨n, xs', h1, h3, e⟩)
      · exact .inr (.inl h)
    · rintro ((h | h) | (h | ⟨n, xs, h1, h2, _⟩))
      · exact .inl h
      · subst h
        exact .inr (.inl ⟨m, ys', ha, List.getElem?_set_self hm⟩)
      · exact .inr (.inr h)
      · obtain ⟨xs', h3⟩ := (live n).mpr ⟨xs, h2⟩
        exact .inr (.inl ⟨n, xs', h1, h3⟩)
  have cv : ∀ b o, H1 b = some o → ¬ w1.M ⟨g0 ++ [ys'], []⟩ b → H1 b = some o ∧ ¬ w.M ⟨g0, st.l.set m (some ys')⟩ b := fun b o hb m => ⟨hb, fun q => m ((hM b).mp q)⟩
  have lee : Le H w st H1 w ⟨g0, st.l.set m (some ys')⟩ :=
    ⟨rfl, ⟨[], by simp⟩, ⟨[], by simp⟩, fun b o h n => let z := le.fr b o h (fun q => n ((innerG_M ha hls).mp q)); ⟨z.1, fun q => z.2 ((hM b).mp q)⟩, fun b h => le.fo b (.inl h)⟩
  have dead : ∀ (n : Nat) b, w.la[n]? = some b → st.l[n]? = some none → ¬ w.M st b := fun n b h h2 mm => by
    have hmem : b ∈ w.la := List.mem_iff_getElem?.mpr ⟨n, h⟩
    rcases mm with mm | ⟨i, xs, mm, m2⟩ | mm
    · exact nodup_parts ok.nd mm hmem
    · have : n = i := nodup_ix (ok.nd.sublist (List.sublist_append_right _ _)) h mm
      subst this
      rw [h2] at m2
      cases m2
    · exact (ok.fF b mm).2.2 hmem
  refine ⟨lee, ⟨?_, ?_, fun n xs h => ?_, fun n xs h => ?_, fun n b h e => ?_, ok.nd, fun b h => ?_⟩, fun v x r => Rep.conv cv r⟩
  · show w.mu.length = g0.length
    rw [hg, ok.lg]
  · show w.la.length = (st.l.set m (some ys')).length
    rw [List.length_set, ok.ll]
  · have h : g0[n]? = some xs := h
    have hn : n < g0.length := (List.getElem?_eq_some_iff.mp h).1
    obtain ⟨b, vs, e, z, r⟩ := ok1.g n xs (show (g0 ++ [ys'])[n]? = some xs by rw [List.getElem?_append_left hn]; exact h)
    rw [hmu, List.getElem?_append_left (by rw [ok.lg]; omega)] at e
    exact ⟨b, vs, e, z, r.conv cv⟩
  · have h : (st.l.set m (some ys'))[n]? = some (some xs) := h
    by_cases e : m = n
    · subst e
      rw [List.getElem?_set_self hm] at h
      cases h
      obtain ⟨b, vs, e, z, r⟩ := ok1.g g0.length ys' (show (g0 ++ [ys'])[g0.length]? = some ys' by rw [List.getElem?_append_right (Nat.le_refl _), Nat.sub_self]; rfl)
      rw [hmu, List.getElem?_append_right (by rw [ok.lg]; omega), hg, ok.lg, Nat.sub_self] at e
      have e : some a = some b := e
      cases e
      exact ⟨a, vs, ha, z, r.conv cv⟩
    · rw [List.getElem?_set_ne e] at h
      obtain ⟨b, vs, e2, z, r⟩ := ok.l n xs h
      have hne : b ≠ a := fun q => by
        subst q
        exact e (nodup_ix (ok.nd.sublist (List.sublist_append_right _ _)) ha e2)
      exact ⟨b, vs, e2, by rw [le.fo b (.inr ⟨n, xs, e2, h, hne⟩)]; exact z, r.le lee⟩
  · have h : (st.l.set m (some ys'))[n]? = some none := h
    have hne : m ≠ n := fun q => by
      subst q
      rw [List.getElem?_set_self hm] at h
      cases h
    rw [List.getElem?_set_ne hne] at h
    obtain ⟨o, z⟩ := ok.fz n b h e
    exact ⟨o, (lee.fr b _ z (dead n b e h)).1⟩
  · obtain ⟨q1, q2, _⟩ := ok1.fF b (by rw [hF]; exact .inl h)
    rw [hmu] at q2
    exact ⟨q1, fun q => q2 (List.mem_append_left _ q), (ok.fF b h).2.2⟩
/-- behind the call -/
theorem outer_of (ok : WOk K H w st) (hl : w1.la = []) (le : Le H (w.inner st) ⟨st.g, []⟩ H1 w1 ⟨g, []⟩) (ok1 : WOk K H1 w1 ⟨g, []⟩) :
    Le H w st H1 ⟨w1.mu, w.la, w.F⟩ ⟨g, st.l⟩ ∧ WOk K H1 ⟨w1.mu, w.la, w.F⟩ ⟨g, st.l⟩ ∧ ∀ v ev, EVRep K H1 w1 ⟨g, []⟩ v ev → EVRep K H1 ⟨w1.mu, w.la, w.F⟩ ⟨g, st.l⟩ v ev := by
  have hF : w1.F = fun a => w.F a ∨ ∃ (n : Nat) (xs : List D), w.la[n]? = some a ∧ st.l[n]? = some (some xs) := le.F
  have hM : ∀ a, Wd.M ⟨w1.mu, w.la, w.F⟩ ⟨g, st.l⟩ a ↔ w1.M ⟨g, []⟩ a := fun a => by
    unfold Wd.M
    simp only [List.getElem?_nil, reduceCtorEq, and_false, exists_false, false_or]
    rw [hF]
    constructor
    · rintro (h | h | h)
      · exact .inl h
      · exact .inr (.inr h)
      · exact .inr (.inl h)
    · rintro (h | h | h)
      · exact .inl h
      · exact .inr (.inr h)
      · exact .inr (.inl h)
  have lee : Le H w st H1 ⟨w1.mu, w.la, w.F⟩ ⟨g, st.l⟩ :=
    ⟨rfl, le.mu, ⟨[], by simp⟩, fun a o h m => let z := le.fr a o h (fun q => m (inner_M.mp q)); ⟨z.1, fun q => z.2 ((hM a).mp q)⟩, fun a h => le.fo a (.inl h)⟩
  have dead : ∀ (n : Nat) a, w.la[n]? = some a → st.l[n]? = some none → ¬ w.M st a := fun n a h h2 m => by
    have hmem : a ∈ w.la := List.mem_iff_getElem?.mpr ⟨n, h⟩
    rcases m with m | ⟨i, xs, m, m2⟩ | m
    · exact nodup_parts ok.nd m hmem
    · have : n = i := nodup_ix (ok.nd.sublist (List.sublist_append_right _ _)) h m
      subst this
      rw [h2] at m2
      cases m2
    · exact (ok.fF a m).2.2 hmem
  refine ⟨lee, ⟨ok1.lg, ok.ll, fun n xs h => ?_, fun n xs h => ?_, fun n a h e => ?_, ?_, fun a h => ?_⟩, fun v ev r => ?_⟩
  · obtain ⟨a, vs, e, z, r⟩ := ok1.g n xs h
    exact ⟨a, vs, e, z, r.conv fun b o hb m => ⟨hb, fun q => m ((hM b).mp q)⟩⟩
  · obtain ⟨a, vs, e, z, r⟩ := ok.l n xs h
    exact ⟨a, vs, e, by rw [le.fo a (.inr ⟨n, xs, e, h⟩)]; exact z, r.le lee⟩
  · obtain ⟨o, z⟩ := ok.fz n a h e
    exact ⟨o, (lee.fr a _ z (dead n a e h)).1⟩
  · show (w1.mu ++ w.la).Nodup
    have n1 : w1.mu.Nodup := by
      have := ok1.nd
      rw [hl, List.append_nil] at this
      exact this
    rw [List.nodup_append]
    refine ⟨n1, ok.nd.sublist (List.sublist_append_right _ _), fun a ha b hb e => ?_⟩
    subst e
    obtain ⟨n, hn⟩ := List.mem_iff_getElem?.mp hb
    have hlt : n < st.l.length := by rw [← ok.ll]; exact (List.getElem?_eq_some_iff.mp hn).1
    have hs : st.l[n]? = some st.l[n] := List.getElem?_eq_getElem hlt
    cases q : st.l[n] with
    | none =>
      rw [q] at hs
      obtain ⟨o, z⟩ := ok.fz n a hs hn
      exact (le.fr a _ z fun m => dead n a hn hs (inner_M.mp m)).2 (.inl ha)
    | some xs =>
      rw [q] at hs
      exact (ok1.fF a (by rw [hF]; exact .inr ⟨n, xs, hn, hs⟩)).2.1 ha
  · obtain ⟨q1, q2, _⟩ := ok1.fF a (by rw [hF]; exact .inl h)
    exact ⟨q1, q2, (ok.fF a h).2.2⟩
  · cases ev with
    | d x => exact Rep.conv (fun b o hb m => ⟨hb, fun q => m ((hM b).mp q)⟩) r
    | lm n =>
      obtain ⟨a, e, h⟩ := r
      rw [hl] at h
      simp at h
    | gm n => exact r
    | sc ds =>
      obtain ⟨a, xs, e, f, z⟩ := r
      exact ⟨a, xs, e, f.conv fun b o hb m => ⟨hb, fun q => m ((hM b).mp q)⟩, z.conv fun b o hb m => ⟨hb, fun q => m ((hM b).mp q)⟩⟩
end
end VI

/-! VI8: the check of a text against a piece of the small language; readings by the meaning; parts of the soundness. -/
namespace VI
open PySem PySem.Spec PyProof.Rows L2
/-! ### the check -/
/-- which of math's names are there -/
structure Im where
  g : Bool
  i : Bool
structure Ctx where
  N : List Str
  sc : Scope
  fn : Str → Bool
  fns : List (Str × Nat)
  gls : List Str
  gcd : Im
def okNm (x : Str) : Bool := !(x == ("__debug__" : Str)) && (!(x == ("__classdict__" : Str)) && decide (x ≠ "__name__"))
def visB (sc : Scope) (x : Str) : Bool := match sc.names.lookup x with
  | some .local => true
  | some .cell => true
  | some .free => true
  | _ => false
def isLoc (sc : Scope) (x : Str) : Bool := match sc.names.lookup x with
  | some .local => true
  | _ => false
def locB (sc : Scope) (x : Str) : Bool := match sc.names.lookup x with
  | some .local => true
  | some .cell => true
  | _ => false
def glB (sc : Scope) (x : Str) : Bool := match sc.names.lookup x with
  | some .globalImplicit => true
  | _ => false
/-- a test of such a form is its value's truth -/
def plainT : Expr → Bool
  | .BinOp .. => true
  | .Call .. => true
  | .Constant .. => true
  | .Subscript .. => true
  | .Name .. => true
  | .List .. => true
  | .Tuple .. => true
  | _ => false
def notStar : Expr → Bool
  | .Starred .. => false
  | _ => true
def notSet : Expr → Bool
  | .Set .. => false
  | _ => true
def notSlice : Expr → Bool
  | .Slice .. => false
  | _ => true
structure CK where
  e : Expr → Bool
  t : Expr → Bool
  l : List Expr → Bool
  i : Expr → Expr → Bool
  g : Expr → Bool
  gl : List Expr → Bool
  o : Option Expr → Bool
  ls : List Expr → Bool := fun _ => false
def noCK : CK where
  e := fun _ => false
  t := fun _ => false
  l := fun _ => false
  i := fun _ _ => false
  g := fun _ => false
  gl := fun _ => false
  o := fun _ => false
def ckE (f : Expr → Bool) : CK where
  e := f
  t := fun e => f e && plainT e
  l := fun _ => false
  i := fun _ it => f it
  g := fun _ => false
  gl := fun _ => false
  o := fun o => match o with
    | some e => f e
    | none => false
def ckB (f : Expr → Bool) : CK := { noCK with
  e := f
  t := f }
def bltN : Blt → Str
  | .str => "str" | .len => "len" | .abs => "abs" | .int => "int" | .min2 => "min" | .max2 => "max" | .gcd => "gcd" | .isqrt => "isqrt" | .all => "all" | .any => "any" | .tuple => "tuple" | .list => "list" | .repr => "repr"
  | .min3 => "min" | .max3 => "max" | .maxL => "max" | .minL => "min"
def tyN : Ty → Str
  | .tuple => "tuple" | .list => "list" | .str => "str" | .int => "int" | .bool => "bool"
def notCall : Expr → Bool
  | .Call _ (_ :: _) _ _ => true
  | .Call .. => false
  | _ => true
def isNil : IE → Bool
  | .nil => true
  | _ => false
def isStarE : Expr → Bool
  | .Starred .. => true
  | _ => false
def ifsB (nl : Bool) (f : Expr → Bool) : List Expr → Bool
  | [] => nl
  | [y] => !nl && f y
  | _ => false
def isBf (neg : Bool) (f g : Expr → Bool) : Expr → Bool
  | .Compare l [.Is] [r] _ => !neg && (f l && (notSet r && g r))
  | .Compare l [.IsNot] [r] _ => neg && (f l && (notSet r && g r))
  | _ => false
def uNot (f : Expr → Bool) : Expr → Bool
  | .UnaryOp .Not x _ => f x
  | _ => false
def bAnd (f g : Expr → Bool) : Expr → Bool
  | .BoolOp .And [x, y] _ => f x && g y
  | .BoolOp .And (x :: y :: z :: r) p => f x && g (.BoolOp .And (y :: z :: r) p)
  | _ => false
def bOr (f g : Expr → Bool) : Expr → Bool
  | .BoolOp .Or [x, y] _ => f x && g y
  | .BoolOp .Or (x :: y :: z :: r) p => f x && g (.BoolOp .Or (y :: z :: r) p)
  | _ => false
/-- a display's pairs are the constants given -/
def keysB : List (Str × D) → List (Option Expr) → List Expr → Bool
  | [], [], [] => true
  | (k, .str d) :: ks, some (.Constant (.str x) _ _) :: es, .Constant (.str y) _ _ :: vs => decide (x = k) && (decide (y = d) && keysB ks es vs)
  | (k, .int d) :: ks, some (.Constant (.str x) _ _) :: es, .Constant (.int y) _ _ :: vs => decide (x = k) && (decide (y = d) && keysB ks es vs)
  | _, _, _ => false
/-- a display's keys are the texts given -/
def keyB : List Str → List (Option Expr) → Bool
  | [], [] => true
  | k :: ks, some (.Constant (.str x) _ _) :: es => decide (x = k) && keyB ks es
  | _, _ => false
def ck : IE → Ctx → CK
  | .cst d, _ => ckE fun e => match d, e with
    | .int i, .Constant (.int j) _ _ => decide (i = j)
    | .bool b, .Constant (.bool c) _ _ => b == c
    | .str x, .Constant (.str y) _ _ => decide (x = y)
    | .none, .Constant .none _ _ => true
    | _, _ => false
  | .var i, c => { ckE (fun e => match e with
      | .Name x _ => decide (c.N[i]? = some x) && (visB c.sc x && okNm x)
      | _ => false) with
      g := fun e => match e with
        | .Name x _ => decide (c.N[i]? = some x) && (locB c.sc x && (c.fn x || isLoc c.sc x))
        | _ => false }
  | .glo n, c => ckE fun e => match e with
      | .Name x _ => decide (c.gls[n]? = some x) && (glB c.sc x && okNm x)
      | _ => false
  | .bin o a b, c => ckE fun e => match e with
      | .BinOp l op r _ => decide (op = opA o) && ((ck a c).e l && (ck b c).e r)
      | _ => false
  | .neg a, c => ckE fun e => match e with
      | .UnaryOp .USub x _ => (ck a c).e x
      | _ => false
  | .nt a, c => { noCK with
      e := uNot (ck a c).e
      t := uNot (ck a c).t }
  | .cmp o a b, c => ckB fun e => match e with
      | .Compare l [op] [r] _ => decide (op = opC o) && ((ck a c).e l && ((ck b c).e r && notSet r))
      | _ => false
  | .cmp2 o p a b d, c => ckB fun e => match e with
      | .Compare l [op, op2] [m, r] _ => decide (op = opC o) && (decide (op2 = opC p) && ((ck a c).e l && ((ck b c).e m && ((ck d c).e r && notSet r))))
      | _ => false
  | .isN a, c => ckB fun e => match e with
      | .Compare l [.Is] [.Constant .none _ _] _ => (ck a c).e l
      | _ => false
  | .notN a, c => ckB fun e => match e with
      | .Compare l [.IsNot] [.Constant .none _ _] _ => (ck a c).e l
      | _ => false
  | .an a b, c => { noCK with
      e := bAnd (ck a c).e (ck b c).e
      t := bAnd (ck a c).t (ck b c).t }
  | .oo a b, c => { noCK with
      e := bOr (ck a c).e (ck b c).e
      t := bOr (ck a c).t (ck b c).t }
  | .ife t a b, c => ckE fun e => match e with
      | .IfExp q x y _ => (ck t c).t q && ((ck a c).e x && (ck b c).e y)
      | _ => false
  | .nil, _ => { noCK with
      l := fun es => es.isEmpty
      ls := fun es => es.isEmpty
      gl := fun es => es.isEmpty
      o := fun o => o.isNone }
  | .cons a r, c => { noCK with
      l := fun es => match es with
        | e :: es => notStar e && ((ck a c).e e && (ck r c).l es)
        | _ => false
      ls := fun es => match es with
        | e :: es => notStar e && ((ck a c).e e && (ck r c).ls es)
        | _ => false
      gl := fun es => match es with
        | e :: es => notStar e && ((ck a c).g e && (ck r c).gl es)
        | _ => false }
  | .tup r, c => { ckE (fun e => match e with
      | .Tuple es _ _ => decide (es.length ≤ 1000) && (ck r c).l es
      | _ => false) with
      g := fun e => match e with
        | .Tuple es _ _ => (ck r c).gl es
        | _ => false }
  | .lst kd r, c => ckE fun e => match e with
      | .List es _ => decide (es.length ≤ 1000) && (ck r c).l es
      | _ => false
  | .ixc a n, c => ckE fun e => match e with
      | .Subscript x (.Constant (.int j) _ _) _ => decide (j = (n : Nat)) && (ck a c).e x
      | _ => false
  | .ix a i, c => ckE fun e => match e with
      | .Subscript x y _ => notSlice y && ((ck a c).e x && (ck i c).e y)
      | _ => false
  | .sl kd a lo hi, c => ckE fun e => match e with
      | .Subscript x (.Slice l h none _) _ => (ck a c).e x && ((ck lo c).o l && (ck hi c).o h)
      | _ => false
  | .call n r, c => ckE fun e => match e with
      | .Call (.Name f _) es [] _ => decide (c.fns[n]? = some (f, es.length)) && (glB c.sc f && (okNm f && (ck r c).l es))
      | _ => false
  | .blt b kd r, c => ckE fun e => match e with
      | .Call (.Name f _) (e :: es) [] _ => decide (f = bltN b) && ((c.gcd.g || decide (b ≠ .gcd)) && (c.gcd.i || decide (b ≠ .isqrt)) && (glB c.sc f && (ck r c).l (e :: es)))
      | _ => false
  | .cmpr kd own tg it t e, c => ckE fun x => match x with
      | .ListComp elt [⟨tgx, itx, ifs, a⟩] scope _ =>
        let c' : Ctx := { c with sc := relS scope c.sc, fn := fun x => scope.names.lookup x == some .cell }
        decide (a = 0) && (blkC c.N c.sc scope (own.map fun i => (c.N.getD i Str.empty, i)) && ((ck it c).i tgx itx && (notSet itx && ((ck tg c').g tgx && ((slotsOf tg).all (fun i => decide (i ∈ own)) && ((match ifs with
          | [] => isNil t
          | [y] => !isNil t && (ck t c').t y
          | _ => false) && (ck e c').e elt))))))
      | _ => false
  | .rng r, c => { noCK with i := fun _ it => match it with
      | .Call (.Name f _) [x] [] _ => decide (f = "range") && (glB c.sc f && (ck r c).l [x])
      | .Call (.Name f _) [x, y] [] _ => decide (f = "range") && (glB c.sc f && (ck r c).l [x, y])
      | .Call (.Name f _) [x, y, z] [] _ => decide (f = "range") && (glB c.sc f && (ck r c).l [x, y, z])
      | _ => false }
  | .enm r, c => { noCK with i := fun tg it => match tg, it with
      | .Tuple _ _ _, .Call (.Name f _) [x] [] _ => decide (f = "enumerate") && (glB c.sc f && (ck r c).l [x])
      | _, _ => false }
  | .zp r, c => { noCK with i := fun tg it => match tg, it with
      | .Tuple _ _ _, .Call (.Name f _) [x, y] [] _ => decide (f = "zip") && (glB c.sc f && (ck r c).l [x, y])
      | _, _ => false }
  | .isi a t, c => ckB fun e => match e with
      | .Call (.Name f _) [x, .Name y _] [] _ => decide (f = "isinstance") && (decide (y = tyN t) && (glB c.sc f && (glB c.sc y && (notStar x && (ck a c).e x))))
      | _ => false
  | .scons a r, c => { noCK with
      ls := fun es => match es with
        | .Starred e _ :: es => (ck a c).e e && (ck r c).ls es
        | _ => false }
  | .tupS r, c => ckE fun e => match e with
      | .Tuple es _ _ => (ck r c).ls es
      | _ => false
  | .lstS kd r, c => ckE fun e => match e with
      | .List es _ => (ck r c).ls es
      | _ => false
  | .srs kd a, c => ckE fun e => match e with
      | .Call (.Name f _) [.Call (.Name g _) [x] [] _] [] _ => decide (f = "sorted") && (decide (g = "set") && (glB c.sc f && (glB c.sc g && (notStar x && (ck a c).e x))))
      | _ => false
  | .srl kd a, c => ckE fun e => match e with
      | .Call (.Name f _) [x] [] _ => decide (f = "sorted") && (glB c.sc f && (notStar x && (ck a c).e x))
      | _ => false
  | .lop kd o a b, c => ckE fun e => match e with
      | .BinOp l op r _ => decide (op = opA o) && ((ck a c).e l && (ck b c).e r)
      | _ => false
  | .idx a x, c => ckE fun e => match e with
      | .Call (.Attribute o m ap) [y] [] cp => decide (m = "index") && (notCall o && ((ap.endLine == cp.line) && (notStar y && ((ck a c).e o && (ck x c).e y))))
      | _ => false
  | .dget ks a b, c => ckE fun e => match e with
      | .Call (.Attribute (.Dict es vs _) m ap) [x, y] [] cp => decide (m = "get") && (keysB ks es vs && ((decide (ks.map (·.1)).Nodup && (decide (ks ≠ []) && decide (ks.length ≤ 15))) && ((ap.endLine == cp.line) && (notStar x && (notStar y && ((ck a c).e x && (ck b c).e y))))))
      | _ => false
  | .callG n r, c => ckE fun e => match e with
      | .Call (.Name f _) es [] _ => decide (c.fns[n]? = some (f, es.length)) && (glB c.sc f && (okNm f && (ck r c).l es))
      | _ => false
  | .callS n ar r, c => ckE fun e => match e with
      | .Call (.Name f _) (e :: es) [] _ => decide (c.fns[n]? = some (f, ar)) && (glB c.sc f && (okNm f && (notStar e && (es.any isStarE && (ck r c).ls (e :: es)))))
      | _ => false
  | .cmpr2 kd own tg it t tg1 it1 t1 e, c => ckE fun x => match x with
      | .ListComp elt [⟨tgx, itx, ifs, a⟩, ⟨tgx1, itx1, ifs1, a1⟩] scope _ =>
        let c' : Ctx := { c with sc := relS scope c.sc, fn := fun x => scope.names.lookup x == some .cell }
        decide (a = 0) && (decide (a1 = 0) && (blkC c.N c.sc scope (own.map fun i => (c.N.getD i Str.empty, i)) && ((ck it c).i tgx itx && (notSet itx && ((ck tg c').g tgx && ((slotsOf tg).all (fun i => decide (i ∈ own)) && (ifsB (isNil t) (ck t c').t ifs &&
          ((ck it1 c').i tgx1 itx1 && (notSet itx1 && ((ck tg1 c').g tgx1 && ((slotsOf tg1).all (fun i => decide (i ∈ own)) && (ifsB (isNil t1) (ck t1 c').t ifs1 && (ck e c').e elt))))))))))))
      | _ => false
  | .isB neg a b, c => ckB (isBf neg (ck a c).e (ck b c).e)
  | .sri kd a, c => ckE fun e => match e with
      | .Call (.Name f _) [x] [] _ => decide (f = "sorted") && (glB c.sc f && (notStar x && (ck a c).e x))
      | _ => false
  | .ssi kd a, c => ckE fun e => match e with
      | .Call (.Name f _) [.Call (.Name g _) [x] [] _] [] _ => decide (f = "sorted") && (decide (g = "set") && (glB c.sc f && (glB c.sc g && (notStar x && (ck a c).e x))))
      | _ => false
  | .callP n dsp a r, c => ckE fun e => match e with
      | .Call (.Name f _) (e0 :: es) [] _ => decide (c.fns[n]? = some (f, es.length + 1)) && (glB c.sc f && (okNm f && (notStar e0 && ((match dsp, e0 with
        | true, .List xs _ => decide (xs.length ≤ 1000) && (ck a c).l xs
        | false, e0 => (ck a c).e e0
        | _, _ => false) && (ck r c).l es))))
      | _ => false
  | .srd kd a, c => ckE fun e => match e with
      | .Call (.Name f _) [x] [] _ => decide (f = "sorted") && (glB c.sc f && (notStar x && (ck a c).e x))
      | _ => false
  | .rev kd a, c => ckE fun e => match e with
      | .Subscript x (.Slice none none (some (.UnaryOp .USub (.Constant (.int 1) _ _) _)) _) _ => (ck a c).e x
      | _ => false
  | .dix ks r a, c => ckE fun e => match e with
      | .Subscript (.Dict es vs _) i _ => keyB ks es && ((decide ks.Nodup && (decide (ks ≠ []) && decide (ks.length ≤ 15))) && (decide (ks.length = vs.length) && (notSlice i && ((ck r c).l vs && (ck a c).e i))))
      | _ => false
  | .rgv tp kd a, c => ckE fun e => match e with
      | .Call (.Name f _) [.Call (.Name g _) [x] [] _] [] _ => decide (f = if tp = true then "tuple" else "list") && (decide (g = "range") && (glB c.sc f && (glB c.sc g && (notStar x && (ck a c).e x))))
      | _ => false
/-! ### the readings -/
section
variable (K : PySem.W.Frag) (tb : Tb) (ie : IE)
abbrev TEs : TE := fun σ H Q => ∃ w st env, WOk K H w st ∧ EnvRep K H w st σ env ∧ (sem tb ie).e env st (PostW K H w st Q)
abbrev TTs : TT := fun σ H Q => ∃ w st env, WOk K H w st ∧ EnvRep K H w st σ env ∧ (sem tb ie).t env st fun b st' => ∀ H' w', Le H w st H' w' st' → WOk K H' w' st' → Q b H'
abbrev TLs (n : Nat) : TA := fun σ H Q => ∃ w st env, WOk K H w st ∧ EnvRep K H w st σ env ∧ (sem tb ie).l env st fun evs st' => ∀ vs H' w', Le H w st H' w' st' → WOk K H' w' st' → EVReps K H' w' st' vs evs → vs.length = n → Q vs H'
abbrev TL0 : TA := fun σ H Q => ∃ w st env, WOk K H w st ∧ EnvRep K H w st σ env ∧ (sem tb ie).l env st fun evs st' => ∀ vs H' w', Le H w st H' w' st' → WOk K H' w' st' → EVReps K H' w' st' vs evs → Q vs H'
abbrev TOs : TO := fun σ H Q => ∃ w st env, WOk K H w st ∧ EnvRep K H w st σ env ∧ (sem tb ie).o env st fun b st' => ∀ H' w', Le H w st H' w' st' → WOk K H' w' st' → Q b H'
/-- what an iterator yields -/
def Fr (H : Hp) (w : Wd) (st : Sto) (H' : Hp) (w' : Wd) (st' : Sto) : Prop := ∀ a o, H a = some o → ¬ w.M st a → H' a = some o ∧ ¬ w'.M st' a
def Ys (J : It) (H0 : Hp) (w0 : Wd) (st0 : Sto) (xs : List D) : Prop := ∀ H w st, Fr H0 w0 st0 H w st → WOk K H w st → ∀ i : Nat, (xs.length ≤ i → J.stop i H) ∧ ∀ x, xs[i]? = some x → J.go i H ∧ ∀ v H', J.yld i H v H' → Le H w st H' w st ∧ WOk K H' w st ∧ Rep K H' (w.M st) v x
abbrev TIs : TI := fun σ H R => ∃ w st env, WOk K H w st ∧ EnvRep K H w st σ env ∧ (sem tb ie).i env st fun xs st' => ∀ J H' w', Le H w st H' w' st' → WOk K H' w' st' → Ys K J H' w' st' xs → R J H'
def Chg (vs : List Nat) (σ σ' : L2.St) : Prop := σ'.length = σ.length ∧ ∀ j : Nat, j ∉ vs → σ'[j]? = σ[j]?
abbrev TGs1 : TG := fun v σ H Q => ∃ w st env ev, WOk K H w st ∧ EnvRep K H w st σ env ∧ EVRep K H w st v ev ∧ (sem tb ie).a ev env fun env' => ∀ σ', EnvRep K H w st σ' env' → Chg (slotsOf ie) σ σ' → Q σ' H
abbrev TGsL (n : Nat) : L2.TGs := fun vs σ H Q => ∃ w st env ds, WOk K H w st ∧ EnvRep K H w st σ env ∧ Reps K H (w.M st) vs ds ∧ vs.length = n ∧ (sem tb ie).al ds env fun env' => ∀ σ', EnvRep K H w st σ' env' → Chg (slotsOf ie) σ σ' → Q σ' H
end
theorem Chg.refl {vs : List Nat} {σ : L2.St} : Chg vs σ σ := ⟨rfl, fun _ _ => rfl⟩
theorem Chg.trans {a b : List Nat} {σ σ1 σ2 : L2.St} (h1 : Chg a σ σ1) (h2 : Chg b σ1 σ2) : Chg (a ++ b) σ σ2 :=
  ⟨h2.1.trans h1.1, fun j hj => (h2.2 j fun z => hj (List.mem_append_right _ z)).trans (h1.2 j fun z => hj (List.mem_append_left _ z))⟩
/-! ### what the context holds -/
structure CallOk (X : Cx) (name : Str) (ar : Nat) (f : Sem) : Prop where
  ok : ∃ (fa : Addr) (fd : FuncData) (ps : List Str) (k : Nat), FnOkG X.prog X.w X.K X.mg X.base k fa fd ps (spG X.K ar f) ∧ Room k X.A ∧ X.mg name = some (.ref fa) ∧ PySem.W.keepIn X.K (.ref fa) = true ∧ Binds X.K fd ps []
structure CxOk (tb : Tb) (c : Ctx) (X : Cx) : Prop where
  xo : XOk X
  mono : tb.Mono
  N : X.N = c.N
  nd : X.N.Nodup
  sc : X.env.scope = c.sc
  fn : ∀ x, c.fn x = true → X.fn x = true
  fns : c.fns = tb.fn.map fun q => (q.1, q.2.1)
  gls : c.gls = tb.gl.map (·.1)
  ok : ∀ (n : Nat) q, tb.fn[n]? = some q → CallOk X q.1 q.2.1 q.2.2
  gk : ∀ (n : Nat) q, tb.gl[n]? = some q → ∃ u v, X.mg q.1 = some u ∧ RelV v u ∧ ∀ H M, Rep X.K H M v q.2
  mgn : ∀ x ∈ bltNames, X.mg x = none
  gcd : c.gcd.g = true → X.mg "gcd" = some (.builtin "math.gcd")
  isq : c.gcd.i = true → X.mg "isqrt" = some (.builtin "math.isqrt")
theorem vis_of {X : Cx} {sc : Scope} {x : Str} (e : X.env.scope = sc) (h : visB sc x = true) : Vis X.env.scope x := by
  rw [e]
  unfold visB at h
  unfold Vis
  split at h
  · exact .inl (by assumption)
  · exact .inr (.inl (by assumption))
  · exact .inr (.inr (by assumption))
  · cases h
theorem loc_of {X : Cx} {sc : Scope} {x : Str} (e : X.env.scope = sc) (h : locB sc x = true) : L2.Loc X.env.scope x := by
  rw [e]
  unfold locB at h
  unfold L2.Loc
  split at h
  · exact .inl (by assumption)
  · exact .inr (by assumption)
  · cases h
theorem isLoc_of {X : Cx} {sc : Scope} {x : Str} (e : X.env.scope = sc) (h : isLoc sc x = true) : X.env.scope.names.lookup x = some .local := by
  rw [e]
  unfold isLoc at h
  split at h
  · assumption
  · cases h
theorem gl_of {X : Cx} {sc : Scope} {x : Str} (e : X.env.scope = sc) (h : glB sc x = true) : Gl X x := by
  unfold Gl Env.kindOf
  rw [e]
  unfold glB at h
  split at h
  · assumption
  · cases h
theorem okNm_of {x : Str} (h : okNm x = true) : (x == ("__debug__" : Str)) = false ∧ (x == ("__classdict__" : Str)) = false ∧ x ≠ "__name__" := by
  unfold okNm at h
  simp only [Bool.and_eq_true, Bool.not_eq_true', decide_eq_true_eq] at h
  exact h
theorem star_of {e : Expr} {es : List Expr} {env : Env} (h : notStar e = true) : starEach (e :: es) env = (false, eval e env) :: starEach es env := by
  cases e <;> first | rfl | cases h
theorem base_of {o : Expr} {m : Str} {env : Env} (h : notCall o = true) : attributeBase o m env (eval o env) = eval o env := by
  cases o
  case Call f as ks p =>
    cases as with
    | nil => cases h
    | cons a as => cases f <;> rfl
  all_goals rfl
theorem few_of {x : Expr} {env : Env} {p : Pos} (h : notStar x = true) : ((backTo p (starEach [x] env)).all (fun x => !x.1) && (backToKw p (keywordEach [] env)).all (fun x => x.1.isSome)
      && decide (([x] : List Expr).length + ([] : List Keyword).length + (if ([] : List Keyword).isEmpty then 0 else 1) < 30)) = true := by
  rw [star_of h]
  rfl
theorem few2_of {x y : Expr} {env : Env} {p : Pos} (h : notStar x = true) (h' : notStar y = true) : ((backTo p (starEach [x, y] env)).all (fun x => !x.1) && (backToKw p (keywordEach [] env)).all (fun x => x.1.isSome)
      && decide (([x, y] : List Expr).length + ([] : List Keyword).length + (if ([] : List Keyword).isEmpty then 0 else 1) < 30)) = true := by
  rw [star_of h, star_of h']
  rfl
theorem marks_of {e : Expr} {op : CmpOp} (h : notSet e = true) : behindInMarks op e = false := by
  cases e <;> first | rfl | cases h
theorem marks2_of {b e : Expr} {op op2 : CmpOp} (h : notSet e = true) : lastMarks [op, op2] [b, e] = false := marks_of h
theorem fold_of {e : Expr} {env : Env} (h : notSet e = true) : ∀ x, foldedSetIterable e env x = pure x := by
  intro x
  cases e <;> first | rfl | cases h
theorem plainIx_of {e : Expr} (h : notSlice e = true) : PlainIx e := by
  intro o i
  cases e <;> first | rfl | cases h
theorem plainT_of {e : Expr} {env : Env} (h : plainT e = true) : ∀ whole, isTrue e env whole = (do let v ← whole; standAt e.pos; holding [v] (truthy v)) := by
  intro whole
  cases e <;> first | rfl | cases h
section
variable {K : PySem.W.Frag} {tb : Tb} {H : Hp} {w : Wd} {st : Sto} {σ : L2.St} {env : En}
theorem bE (ht : tb.Mono) (ie : IE) (ok : WOk K H w st) (er : EnvRep K H w st σ env) {k : KE} (h : (sem tb ie).e env st k) {Q : VK} (c : ∀ ev st', k ev st' → PostW K H w st Q ev st') : TEs K tb ie σ H Q :=
  ⟨w, st, env, ok, er, (sem_mono ht ie).e _ _ _ _ c h⟩
theorem bT (ht : tb.Mono) (ie : IE) (ok : WOk K H w st) (er : EnvRep K H w st σ env) {k : Bool → Sto → Prop} (h : (sem tb ie).t env st k) {Q : Bool → Hp → Prop} (c : ∀ b st', k b st' → ∀ H' w', Le H w st H' w' st' → WOk K H' w' st' → Q b H') : TTs K tb ie σ H Q :=
  ⟨w, st, env, ok, er, (sem_mono ht ie).t _ _ _ _ c h⟩
theorem bL (ht : tb.Mono) (ie : IE) {n : Nat} (ok : WOk K H w st) (er : EnvRep K H w st σ env) {k : List EV → Sto → Prop} (h : (sem tb ie).l env st k) {Q : List V → Hp → Prop} (c : ∀ evs st', k evs st' → ∀ vs H' w', Le H w st H' w' st' → WOk K H' w' st' → EVReps K H' w' st' vs evs → vs.length = n → Q vs H') : TLs K tb ie n σ H Q :=
  ⟨w, st, env, ok, er, (sem_mono ht ie).l _ _ _ _ c h⟩
theorem bO (ht : tb.Mono) (ie : IE) (ok : WOk K H w st) (er : EnvRep K H w st σ env) {k : Option Int → Sto → Prop} (h : (sem tb ie).o env st k) {Q : Option Int → Hp → Prop} (c : ∀ b st', k b st' → ∀ H' w', Le H w st H' w' st' → WOk K H' w' st' → Q b H') : TOs K tb ie σ H Q :=
  ⟨w, st, env, ok, er, (sem_mono ht ie).o _ _ _ _ c h⟩
end
/-! ### iterators -/
section
variable {K : PySem.W.Frag} {H : Hp} {w : Wd} {st : Sto} {a b : Addr} {vs us : List V} {ds es : List D}
theorem Ys.list (f : FzL K H (w.M st) a vs) (r : Reps K H (w.M st) vs ds) : Ys K (Itl K a) H w st ds := fun H' w' st' le ok i => by
  have f' := f.conv le
  have r' := r.conv le
  refine ⟨fun h => ⟨vs, f'.sq, by rw [r'.length]; exact h⟩, fun x hx => ?_⟩
  obtain ⟨v, hv, rv⟩ := r'.get hx
  refine ⟨⟨vs, v, f'.sq, hv⟩, fun u H2 ⟨e, hu⟩ => ?_⟩
  subst e
  have := hu vs f'.sq
  rw [hv] at this
  cases this
  exact ⟨Le.refl, ok, rv⟩
theorem FzT.conv {K : PySem.W.Frag} {H H' : Hp} {M M' : Addr → Prop} (c : ∀ a o, H a = some o → ¬ M a → H' a = some o ∧ ¬ M' a) {a : Addr} {xs : List V} (f : FzT K H M a xs) : FzT K H' M' a xs :=
  f.elim (fun ⟨z, m⟩ => .inl ⟨z.elim (fun z => .inl (c _ _ z m).1) fun ⟨o, z⟩ => .inr ⟨o, (c _ _ z m).1⟩, z.elim (fun z => (c _ _ z m).2) fun ⟨o, z⟩ => (c _ _ z m).2⟩) .inr
theorem Ys.tup (f : FzT K H (w.M st) a vs) (r : Reps K H (w.M st) vs ds) : Ys K (Itt K a) H w st ds := fun H' w' st' le ok i => by
  have f' := f.conv le
  have r' := r.conv le
  refine ⟨fun h => ⟨vs, f'.sq, by rw [r'.length]; exact h⟩, fun x hx => ?_⟩
  obtain ⟨v, hv, rv⟩ := r'.get hx
  refine ⟨⟨vs, v, f'.sq, hv⟩, fun u H2 ⟨e, hu⟩ => ?_⟩
  subst e
  have := hu vs f'.sq
  rw [hv] at this
  cases this
  exact ⟨Le.refl, ok, rv⟩
theorem Ys.range (lo : Int) (n : Nat) : Ys K (Itr lo n) H w st (upto lo n) := fun H' w' st' le ok i => by
  unfold upto
  refine ⟨fun h => ?_, fun x hx => ?_⟩
  · have h' : n ≤ i := by simpa using h
    exact h'
  rw [List.getElem?_map] at hx
  by_cases hi : i < n
  · rw [List.getElem?_range hi] at hx
    cases hx
    refine ⟨hi, fun v H2 ⟨e1, e2⟩ => ?_⟩
    subst e1 e2
    exact ⟨Le.refl, ok, .int _⟩
  · rw [List.getElem?_eq_none (by simpa using hi)] at hx
    cases hx
theorem Ys.enum (f : FzL K H (w.M st) a vs) (r : Reps K H (w.M st) vs ds) : Ys K (Ite K a) H w st (ds.mapIdx fun i x => .tuple [.int (i : Nat), x]) := fun H' w' st' le ok i => by
  have f' := f.conv le
  have r' := r.conv le
  refine ⟨fun h => ⟨vs, f'.sq, by rw [r'.length]; simpa using h⟩, fun x hx => ?_⟩
  rw [List.getElem?_mapIdx] at hx
  cases hd : ds[i]? with
  | none => rw [hd] at hx; cases hx
  | some d =>
    rw [hd] at hx
    cases hx
    obtain ⟨v, hv, rv⟩ := r'.get hd
    refine ⟨⟨vs, v, f'.sq, hv⟩, fun u H2 ⟨T, y, e1, n, e2, hu⟩ => ?_⟩
    subst e1 e2
    have := hu vs f'.sq
    rw [hv] at this
    cases this
    exact new_tup n ok (.cons (.int _) (.cons rv .nil))
theorem zip_get {α β γ : Type} {f : α → β → γ} {l : List α} {m : List β} {i : Nat} {x : γ} (h : (List.zipWith f l m)[i]? = some x) : ∃ a b, l[i]? = some a ∧ m[i]? = some b ∧ f a b = x := by
  rw [List.getElem?_zipWith] at h
  split at h
  · rename_i a b h1 h2
    cases h
    exact ⟨a, b, h1, h2, rfl⟩
  · cases h
theorem Ys.zip (f : FzL K H (w.M st) a vs) (r : Reps K H (w.M st) vs ds) (f2 : FzL K H (w.M st) b us) (r2 : Reps K H (w.M st) us es) : Ys K (Itz K a b) H w st (List.zipWith (fun x y => .tuple [x, y]) ds es) := fun H' w' st' le ok i => by
  have f' := f.conv le
  have r' := r.conv le
  have f2' := f2.conv le
  have r2' := r2.conv le
  refine ⟨fun h => ⟨vs, us, f'.sq, f2'.sq, ?_⟩, fun x hx => ?_⟩
  · rw [r'.length, r2'.length]
    rw [List.length_zipWith] at h
    omega
  · obtain ⟨d, e, h1, h2, h3⟩ := zip_get hx
    subst h3
    obtain ⟨v, hv, rv⟩ := r'.get h1
    obtain ⟨u, hu, ru⟩ := r2'.get h2
    refine ⟨⟨vs, us, v, u, f'.sq, f2'.sq, hv, hu⟩, fun z H2 ⟨T, y1, y2, e1, n, e2, g1, g2⟩ => ?_⟩
    subst e1 e2
    have q1 := g1 vs f'.sq
    rw [hv] at q1
    cases q1
    have q2 := g2 us f2'.sq
    rw [hu] at q2
    cases q2
    exact new_tup n ok (.cons rv (.cons ru .nil))
theorem Ys.zipT (f : FzT K H (w.M st) a vs) (r : Reps K H (w.M st) vs ds) (f2 : FzT K H (w.M st) b us) (r2 : Reps K H (w.M st) us es) : Ys K (RZ.ItzT K a b) H w st (List.zipWith (fun x y => .tuple [x, y]) ds es) := fun H' w' st' le ok i => by
  have f' := f.conv le
  have r' := r.conv le
  have f2' := f2.conv le
  have r2' := r2.conv le
  refine ⟨fun h => ⟨vs, us, f'.sq, f2'.sq, ?_⟩, fun x hx => ?_⟩
  · rw [r'.length, r2'.length]
    rw [List.length_zipWith] at h
    omega
  · obtain ⟨d, e, h1, h2, h3⟩ := zip_get hx
    subst h3
    obtain ⟨v, hv, rv⟩ := r'.get h1
    obtain ⟨u, hu, ru⟩ := r2'.get h2
    refine ⟨⟨vs, us, v, u, f'.sq, f2'.sq, hv, hu⟩, fun z H2 ⟨T, y1, y2, e1, n, e2, g1, g2⟩ => ?_⟩
    subst e1 e2
    have q1 := g1 vs f'.sq
    rw [hv] at q1
    cases q1
    have q2 := g2 us f2'.sq
    rw [hu] at q2
    cases q2
    exact new_tup n ok (.cons rv (.cons ru .nil))
end
/-- a list or a tuple, walked -/
theorem pi_seq {X : Cx} {tg l : Expr} {tl : TE} (hl : PE X l tl) : PI X tg l (fun σ H R => tl σ H fun x H1 => ∃ a, x = .ref a ∧ (((∃ xs, SqL X.K H1 a xs) ∧ R (Itl X.K a) H1) ∨ ((∃ xs, SqT X.K H1 a xs) ∧ R (Itt X.K a) H1))) := by
  refine ⟨fun pins s σ H R I h => ?_⟩
  refine thn (hl.run pins s σ H _ I h) fun v s1 ⟨x, H1, I1, r1, q1⟩ => ?_
  obtain ⟨a, e, q⟩ := q1
  subst e
  cases r1
  rcases q with ⟨⟨xs, hq⟩, q⟩ | ⟨⟨xs, hq⟩, q⟩
  · obtain ⟨its, rv, p, hz⟩ := I1.list hq
    refine wpAny_pyIter_list p.isList ?_
    refine ⟨s1.heap.objs.size, [s1.heap.objs.size], _, _, H1, rfl, I1.kept (t' := s1.toks) fun b o e => Heap.get?_push_of_some _ e, turn_list a _, ⟨_, Heap.get?_push_size _ rfl, rfl, rfl⟩, fun b hb => ?_, q⟩
    have e : b = s1.heap.objs.size := by simpa using hb
    subst e
    exact I1.fpOk (Nat.le_refl _) (I1.hok.fresh (Nat.le_refl _))
  · obtain ⟨its, rv, p, hz⟩ := I1.tuple hq
    refine wpAny_pyIter_tuple (show s1.heap.IsTuple a its.toArray from p) ?_
    refine ⟨s1.heap.objs.size, [s1.heap.objs.size], _, _, H1, rfl, I1.kept (t' := s1.toks) fun b o e => Heap.get?_push_of_some _ e, turn_tuple a _, ⟨_, Heap.get?_push_size _ rfl, rfl, rfl⟩, fun b hb => ?_, q⟩
    have e : b = s1.heap.objs.size := by simpa using hb
    subst e
    exact I1.fpOk (Nat.le_refl _) (I1.hok.fresh (Nat.le_refl _))
end VI

/-! VI9: the soundness of expressions. -/
namespace VI
open PySem PySem.Spec PyProof.Rows L2
structure Snd (tb : Tb) (ie : IE) : Prop where
  e : ∀ c X, CxOk tb c X → ∀ e, (ck ie c).e e = true → PE X e (TEs X.K tb ie)
  t : ∀ c X, CxOk tb c X → ∀ e, (ck ie c).t e = true → PT X e (TTs X.K tb ie)
  l : ∀ c X, CxOk tb c X → ∀ es, (ck ie c).l es = true → PA X es (TLs X.K tb ie es.length) ∧ (∀ env, (starEach es env).any (·.1) = false)
  i : ∀ c X, CxOk tb c X → ∀ tg it, (ck ie c).i tg it = true → PI X tg it (TIs X.K tb ie)
  g : ∀ c X, CxOk tb c X → ∀ e, (ck ie c).g e = true → PG X e (TGs1 X.K tb ie)
  gl : ∀ c X, CxOk tb c X → ∀ es, (ck ie c).gl es = true → PGs X es (TGsL X.K tb ie es.length) ∧ ∀ env, (assignEach es env).length = es.length ∧ (assignEach es env).findIdx? (·.1) = none
  o : ∀ c X, CxOk tb c X → ∀ o, (ck ie c).o o = true → PO X o (TOs X.K tb ie)
section
variable {tb : Tb} {ie : IE} {c : Ctx} {X : Cx}
theorem fT (cx : CxOk tb c X) {e : Expr} (he : PE X e (TEs X.K tb ie)) (hp : plainT e = true) (ht : ∀ env st k, (sem tb ie).t env st k = (sem tb ie).e env st fun ev st => truE ev st fun b => k b st) : PT X e (TTs X.K tb ie) :=
  PT.mono (pt_truth he (plainT_of hp)) fun σ H Q ⟨w, st, env, ok, er, h⟩ => by
    rw [ht] at h
    exact bE cx.mono ie ok er h fun ev st1 h1 v H1 w1 le1 ok1 r1 => let ⟨b, tv, q⟩ := tru_rep ok1 r1 h1; ⟨b, tv, q H1 w1 le1 ok1⟩
theorem fI (cx : CxOk tb c X) {tg e : Expr} (he : PE X e (TEs X.K tb ie)) (hi : ∀ env st k, (sem tb ie).i env st k = (sem tb ie).e env st fun ev st => match ev with
    | .d (.list xs) => k xs st
    | .d (.tuple xs) => k xs st
    | .sc xs => k xs st
    | _ => False) : PI X tg e (TIs X.K tb ie) :=
  PI.mono (pi_seq he) fun σ H R ⟨w, st, env, ok, er, h⟩ => by
    rw [hi] at h
    refine bE cx.mono ie ok er h fun ev st1 h1 v H1 w1 le1 ok1 r1 => ?_
    split at h1
    · cases (show Rep _ _ _ v _ from r1) with
      | lst f m r => exact ⟨_, rfl, .inl ⟨⟨_, SqL.of f⟩, h1 _ H1 w1 le1 ok1 (Ys.list (.inl ⟨.inl f, m⟩) r)⟩⟩
    · cases (show Rep _ _ _ v _ from r1) with
      | tup f r => exact ⟨_, rfl, .inr ⟨⟨_, f.sq⟩, h1 _ H1 w1 le1 ok1 (Ys.tup f r)⟩⟩
    · obtain ⟨a, xs, e, f, r⟩ := r1
      exact ⟨a, e, .inl ⟨⟨_, f.sq⟩, h1 _ H1 w1 le1 ok1 (Ys.list f r)⟩⟩
    · exact h1.elim
theorem fO (cx : CxOk tb c X) {e : Expr} (he : PE X e (TEs X.K tb ie)) (ho : ∀ env st k, (sem tb ie).o env st k = (sem tb ie).e env st fun ev st => match ev with
    | .d (.int n) => k (some n) st
    | _ => False) : PO X (some e) (TOs X.K tb ie) :=
  PO.mono (po_some he) fun σ H Q ⟨w, st, env, ok, er, h⟩ => by
    rw [ho] at h
    refine bE cx.mono ie ok er h fun ev st1 h1 v H1 w1 le1 ok1 r1 => ?_
    split at h1
    · cases (show Rep _ _ _ v _ from r1)
      exact ⟨_, rfl, h1 H1 w1 le1 ok1⟩
    · exact h1.elim
/-- the usual expression -/
theorem sndE {f : Ctx → Expr → Bool} (he : ∀ c X, CxOk tb c X → ∀ e, f c e = true → PE X e (TEs X.K tb ie)) (hc : ∀ c, ck ie c = ckE (f c))
    (ht : ∀ env st k, (sem tb ie).t env st k = (sem tb ie).e env st fun ev st => truE ev st fun b => k b st := by intros; rfl)
    (hi : ∀ env st k, (sem tb ie).i env st k = (sem tb ie).e env st fun ev st => match ev with
      | .d (.list xs) => k xs st
      | .d (.tuple xs) => k xs st
      | .sc xs => k xs st
      | _ => False := by intros; rfl)
    (ho : ∀ env st k, (sem tb ie).o env st k = (sem tb ie).e env st fun ev st => match ev with
      | .d (.int n) => k (some n) st
      | _ => False := by intros; rfl) : Snd tb ie where
  e := fun c X cx e h => he c X cx e (by rw [hc] at h; exact h)
  t := fun c X cx e h => by
    rw [hc] at h
    have h2 := Bool.and_eq_true_iff.mp (show (f c e && plainT e) = true from h)
    exact fT cx (he c X cx e h2.1) h2.2 ht
  l := fun c X cx es h => by
    rw [hc] at h
    exact absurd (show false = true from h) Bool.false_ne_true
  i := fun c X cx tg it h => by
    rw [hc] at h
    exact fI cx (he c X cx it h) hi
  g := fun c X cx es h => by
    rw [hc] at h
    exact absurd (show false = true from h) Bool.false_ne_true
  gl := fun c X cx es h => by
    rw [hc] at h
    exact absurd (show false = true from h) Bool.false_ne_true
  o := fun c X cx o h => by
    rw [hc] at h
    cases o with
    | none => exact absurd (show false = true from h) Bool.false_ne_true
    | some e => exact fO cx (he c X cx e h) ho
/-- what gives a truth -/
theorem sndB {f : Ctx → Expr → Bool} (he : ∀ c X, CxOk tb c X → ∀ e, f c e = true → PE X e (TEs X.K tb ie)) (ht : ∀ c X, CxOk tb c X → ∀ e, f c e = true → PT X e (TTs X.K tb ie)) (hc : ∀ c, ck ie c = ckB (f c)) : Snd tb ie where
  e := fun c X cx e h => he c X cx e (by rw [hc] at h; exact h)
  t := fun c X cx e h => ht c X cx e (by rw [hc] at h; exact h)
  l := fun c X cx es h => by
    rw [hc] at h
    exact absurd (show false = true from h) Bool.false_ne_true
  i := fun c X cx tg it h => by
    rw [hc] at h
    exact absurd (show false = true from h) Bool.false_ne_true
  g := fun c X cx es h => by
    rw [hc] at h
    exact absurd (show false = true from h) Bool.false_ne_true
  gl := fun c X cx es h => by
    rw [hc] at h
    exact absurd (show false = true from h) Bool.false_ne_true
  o := fun c X cx o h => by
    rw [hc] at h
    exact absurd (show false = true from h) Bool.false_ne_true
end
section
variable {tb : Tb}
theorem band {a b : Bool} (h : (a && b) = true) : a = true ∧ b = true := Bool.and_eq_true_iff.mp h
theorem snd_cst (d : D) : Snd tb (.cst d) := sndE (f := fun _ e => match d, e with
    | .int i, .Constant (.int j) _ _ => decide (i = j)
    | .bool b, .Constant (.bool c) _ _ => b == c
    | .str x, .Constant (.str y) _ _ => decide (x = y)
    | .none, .Constant .none _ _ => true
    | _, _ => false) (fun c X cx e h => by
  split at h
  · have e1 := of_decide_eq_true h
    subst e1
    exact PE.mono pe_int fun σ H Q ⟨w, st, env, ok, er, q⟩ => q _ H w Le.refl ok (Rep.int _)
  · have e1 := eq_of_beq h
    subst e1
    exact PE.mono pe_bl fun σ H Q ⟨w, st, env, ok, er, q⟩ => q _ H w Le.refl ok (Rep.bl _)
  · have e1 := of_decide_eq_true h
    subst e1
    exact PE.mono pe_str fun σ H Q ⟨w, st, env, ok, er, q⟩ => q _ H w Le.refl ok (Rep.str _)
  · exact PE.mono pe_non fun σ H Q ⟨w, st, env, ok, er, q⟩ => q _ H w Le.refl ok Rep.non
  · cases h) (fun _ => rfl)
theorem e_var {c : Ctx} {X : Cx} (cx : CxOk tb c X) {i : Nat} {e : Expr} (h : (match e with
      | .Name x _ => decide (c.N[i]? = some x) && (visB c.sc x && okNm x)
      | _ => false) = true) : PE X e (TEs X.K tb (.var i)) := by
  split at h
  · obtain ⟨h1, h2⟩ := band h
    obtain ⟨h2, h3⟩ := band h2
    obtain ⟨n1, n2, n3⟩ := okNm_of h3
    refine PE.mono (pe_var (by rw [cx.N]; exact of_decide_eq_true h1) (vis_of cx.sc h2) n1 n2) fun σ H Q ⟨w, st, env, ok, er, q⟩ => ?_
    have q : (match look env i with
      | some ev => PostW X.K H w st Q ev st
      | none => False) := q
    split at q
    · rename_i ev hl
      obtain ⟨v, hv, rv⟩ := er.look hl
      exact ⟨v, hv, q v H w Le.refl ok rv⟩
    · exact q.elim
  · cases h
theorem g_var {c : Ctx} {X : Cx} (cx : CxOk tb c X) {i : Nat} {e : Expr} (h : (match e with
        | .Name x _ => decide (c.N[i]? = some x) && (locB c.sc x && (c.fn x || isLoc c.sc x))
        | _ => false) = true) : PG X e (TGs1 X.K tb (.var i)) := by
  split at h
  · obtain ⟨h1, h2⟩ := band h
    obtain ⟨h2, h3⟩ := band h2
    have hf : X.fn _ = true ∨ X.env.scope.names.lookup _ = some .local := (Bool.or_eq_true_iff.mp h3).elim (fun z => .inl (cx.fn _ z)) fun z => .inr (isLoc_of cx.sc z)
    refine PG.mono (pg_name (i := i) cx.nd (by rw [cx.N]; exact of_decide_eq_true h1) (loc_of cx.sc h2) hf) fun v σ H Q ⟨w, st, env, ev, ok, er, r, q⟩ => ?_
    refine q _ (er.put r i) ⟨by rw [List.length_set], fun j hj => ?_⟩
    have : i ≠ j := fun z => hj (by rw [z]; exact List.mem_singleton.mpr rfl)
    rw [List.getElem?_set_ne this]
  · cases h
theorem snd_var (i : Nat) : Snd tb (.var i) where
  e := fun c X cx e h => e_var cx h
  t := fun c X cx e h => by
    have h2 := band (show ((ck (.var i) c).e e && plainT e) = true from h)
    exact fT cx (e_var cx h2.1) h2.2 fun _ _ _ => rfl
  l := fun c X cx es h => absurd (show false = true from h) Bool.false_ne_true
  i := fun c X cx tg it h => fI cx (e_var cx h) fun _ _ _ => rfl
  g := fun c X cx e h => g_var cx h
  gl := fun c X cx es h => absurd (show false = true from h) Bool.false_ne_true
  o := fun c X cx o h => by
    cases o with
    | none => exact absurd (show false = true from h) Bool.false_ne_true
    | some e => exact fO cx (e_var cx h) fun _ _ _ => rfl
theorem snd_glo (n : Nat) : Snd tb (.glo n) := sndE (f := fun c e => match e with
      | .Name x _ => decide (c.gls[n]? = some x) && (glB c.sc x && okNm x)
      | _ => false) (fun c X cx e h => by
  split at h
  · obtain ⟨h1, h2⟩ := band h
    obtain ⟨h2, h3⟩ := band h2
    obtain ⟨n1, n2, n3⟩ := okNm_of h3
    have h1 := of_decide_eq_true h1
    rw [cx.gls, List.getElem?_map] at h1
    cases hq : tb.gl[n]? with
    | none => rw [hq] at h1; cases h1
    | some q =>
      rw [hq] at h1
      cases h1
      obtain ⟨u, v, hm, rv, rp⟩ := cx.gk n q hq
      refine PE.mono (pe_glob (gl_of cx.sc h2) hm rv n1) fun σ H Q ⟨w, st, env, ok, er, z⟩ => ?_
      have z : (match tb.gl[n]? with
        | some q => PostW X.K H w st Q (.d q.2) st
        | none => False) := z
      rw [hq] at z
      exact z v H w Le.refl ok (rp H _)
  · cases h) (fun _ => rfl)
theorem snd_bin (o : BOp) {a b : IE} (ha : Snd tb a) (hb : Snd tb b) : Snd tb (.bin o a b) := sndE (f := fun c e => match e with
      | .BinOp l op r _ => decide (op = opA o) && ((ck a c).e l && (ck b c).e r)
      | _ => false) (fun c X cx e h => by
  split at h
  · obtain ⟨h1, h2⟩ := band h
    obtain ⟨h2, h3⟩ := band h2
    rw [of_decide_eq_true h1]
    refine PE.mono (pe_op (op_bin o) (ha.e c X cx _ h2) (hb.e c X cx _ h3)) fun σ H Q ⟨w, st, env, ok, er, h⟩ => ?_
    exact bE cx.mono a ok er h fun ex st1 h1 v1 H1 w1 le1 ok1 r1 => bE cx.mono b ok1 (er.le le1) h1 fun ey st2 h2 v2 H2 w2 le2 ok2 r2 =>
      ⟨w2, st2, ex, ey, ok2, r1.le le2, r2, binK_mono (fun z hz v H' le3 ok3 r3 => hz v H' w2 ((le1.trans le2).trans le3) ok3 r3) h2⟩
  · cases h) (fun _ => rfl)
theorem snd_neg {a : IE} (ha : Snd tb a) : Snd tb (.neg a) := sndE (f := fun c e => match e with
      | .UnaryOp .USub x _ => (ck a c).e x
      | _ => false) (fun c X cx e h => by
  split at h
  · refine PE.mono (pe_un un_neg (ha.e c X cx _ h)) fun σ H Q ⟨w, st, env, ok, er, h⟩ => ?_
    refine bE cx.mono a ok er h fun ex st1 h1 v1 H1 w1 le1 ok1 r1 => ?_
    split at h1
    · cases (show Rep _ _ _ v1 _ from r1)
      exact ⟨_, rfl, h1 _ H1 w1 le1 ok1 (Rep.int _)⟩
    · exact h1.elim
  · cases h) (fun _ => rfl)
theorem snd_nt {a : IE} (ha : Snd tb a) : Snd tb (.nt a) where
  e := fun c X cx e h => by
    have h : uNot _ e = true := h
    unfold uNot at h
    split at h
    · refine PE.mono (pe_notT (ha.e c X cx _ h)) fun σ H Q ⟨w, st, env, ok, er, h⟩ => ?_
      exact bE cx.mono a ok er h fun ex st1 h1 v1 H1 w1 le1 ok1 r1 => let ⟨b, tv, q⟩ := tru_rep ok1 r1 h1; ⟨b, tv, q _ H1 w1 le1 ok1 (Rep.bl _)⟩
    · cases h
  t := fun c X cx e h => by
    have h : uNot _ e = true := h
    unfold uNot at h
    split at h
    · refine PT.mono (pt_not (ha.t c X cx _ h)) fun σ H Q ⟨w, st, env, ok, er, h⟩ => ?_
      exact bT cx.mono a ok er h fun b st1 h1 H1 w1 le1 ok1 => h1 H1 w1 le1 ok1
    · cases h
  l := fun c X cx es h => absurd (show false = true from h) Bool.false_ne_true
  i := fun c X cx tg it h => absurd (show false = true from h) Bool.false_ne_true
  g := fun c X cx e h => absurd (show false = true from h) Bool.false_ne_true
  gl := fun c X cx es h => absurd (show false = true from h) Bool.false_ne_true
  o := fun c X cx o h => absurd (show false = true from h) Bool.false_ne_true
theorem snd_cmp (o : COp) {a b : IE} (ha : Snd tb a) (hb : Snd tb b) : Snd tb (.cmp o a b) := by
  have go : ∀ {c : Ctx} {X : Cx}, CxOk tb c X → ∀ {l r : Expr}, (ck a c).e l = true → (ck b c).e r = true → ∀ σ H Q, TEs X.K tb (.cmp o a b) σ H Q → tOp (rCmp X.K o) (TEs X.K tb a) (TEs X.K tb b) σ H Q := fun cx _ _ h1 h2 σ H Q ⟨w, st, env, ok, er, h⟩ =>
    bE cx.mono a ok er h fun ex st1 h1 v1 H1 w1 le1 ok1 r1 => bE cx.mono b ok1 (er.le le1) h1 fun ey st2 h2 v2 H2 w2 le2 ok2 r2 =>
      ⟨w2, st2, ex, ey, ok2, r1.le le2, r2, cmpK_mono (fun z hz => hz _ H2 w2 (le1.trans le2) ok2 (Rep.bl _)) h2⟩
  refine sndB (f := fun c e => match e with
      | .Compare l [op] [r] _ => decide (op = opC o) && ((ck a c).e l && ((ck b c).e r && notSet r))
      | _ => false) (fun c X cx e h => ?_) (fun c X cx e h => ?_) (fun _ => rfl)
  · split at h
    · obtain ⟨h1, h2⟩ := band h
      obtain ⟨h2, h3⟩ := band h2
      obtain ⟨h3, h4⟩ := band h3
      rw [of_decide_eq_true h1]
      exact PE.mono (pe_cmpR (op_cmp cx.xo o) (ha.e c X cx _ h2) (hb.e c X cx _ h3) (marks_of h4)) (go cx h2 h3)
    · cases h
  · split at h
    · obtain ⟨h1, h2⟩ := band h
      obtain ⟨h2, h3⟩ := band h2
      obtain ⟨h3, h4⟩ := band h3
      rw [of_decide_eq_true h1]
      refine PT.mono (pt_cmpR (op_cmp cx.xo o) (ha.e c X cx _ h2) (hb.e c X cx _ h3) (marks_of h4)) fun σ H Q ⟨w, st, env, ok, er, h⟩ => ?_
      exact bE cx.mono a ok er h fun ex st1 h1 v1 H1 w1 le1 ok1 r1 => bE cx.mono b ok1 (er.le le1) h1 fun ey st2 h2 v2 H2 w2 le2 ok2 r2 =>
        ⟨w2, st2, ex, ey, ok2, r1.le le2, r2, cmpK_mono (fun z hz => ⟨z, rfl, hz H2 w2 (le1.trans le2) ok2⟩) h2⟩
    · cases h
theorem snd_cmp2 (o p : COp) {a b d : IE} (ha : Snd tb a) (hb : Snd tb b) (hd : Snd tb d) : Snd tb (.cmp2 o p a b d) := by
  refine sndB (f := fun c e => match e with
      | .Compare l [op, op2] [m, r] _ => decide (op = opC o) && (decide (op2 = opC p) && ((ck a c).e l && ((ck b c).e m && ((ck d c).e r && notSet r))))
      | _ => false) (fun c X cx e h => ?_) (fun c X cx e h => ?_) (fun _ => rfl)
  · split at h
    · obtain ⟨h1, h2⟩ := band h
      obtain ⟨h2, h3⟩ := band h2
      obtain ⟨h3, h4⟩ := band h3
      obtain ⟨h4, h5⟩ := band h4
      obtain ⟨h5, h6⟩ := band h5
      rw [of_decide_eq_true h1, of_decide_eq_true h2]
      refine PE.mono (pe_chain (op_cmp cx.xo o) (op_cmp cx.xo p) (ha.e c X cx _ h3) (hb.e c X cx _ h4) (hd.e c X cx _ h5) (marks2_of h6)) fun σ H Q ⟨w, st, env, ok, er, h⟩ => ?_
      refine bE cx.mono a ok er h fun ex st1 h1 v1 H1 w1 le1 ok1 r1 => bE cx.mono b ok1 (er.le le1) h1 fun ey st2 h2 v2 H2 w2 le2 ok2 r2 =>
        ⟨w2, st2, ex, ey, ok2, r1.le le2, r2, cmpK_mono (fun z hz => ⟨z, rfl, ?_⟩) h2⟩
      cases z with
      | true =>
        have hz := brT' hz; simp only [if_true]
        exact bE cx.mono d ok2 (er.le (le1.trans le2)) hz fun ez st3 h3 v3 H3 w3 le3 ok3 r3 =>
          ⟨w3, st3, ey, ez, ok3, r2.le le3, r3, cmpK_mono (fun z hz => hz _ H3 w3 ((le1.trans le2).trans le3) ok3 (Rep.bl _)) h3⟩
      | false =>
        have hz := brF' hz; simp only [Bool.false_eq_true, if_false]
        exact hz _ H2 w2 (le1.trans le2) ok2 (Rep.bl _)
    · cases h
  · split at h
    · obtain ⟨h1, h2⟩ := band h
      obtain ⟨h2, h3⟩ := band h2
      obtain ⟨h3, h4⟩ := band h3
      obtain ⟨h4, h5⟩ := band h4
      obtain ⟨h5, h6⟩ := band h5
      rw [of_decide_eq_true h1, of_decide_eq_true h2]
      refine PT.mono (pt_chain (op_cmp cx.xo o) (op_cmp cx.xo p) (ha.e c X cx _ h3) (hb.e c X cx _ h4) (hd.e c X cx _ h5) (marks2_of h6)) fun σ H Q ⟨w, st, env, ok, er, h⟩ => ?_
      refine bE cx.mono a ok er h fun ex st1 h1 v1 H1 w1 le1 ok1 r1 => bE cx.mono b ok1 (er.le le1) h1 fun ey st2 h2 v2 H2 w2 le2 ok2 r2 =>
        ⟨w2, st2, ex, ey, ok2, r1.le le2, r2, cmpK_mono (fun z hz => ⟨z, rfl, ?_⟩) h2⟩
      cases z with
      | true =>
        have hz := brT' hz; simp only [if_true]
        exact bE cx.mono d ok2 (er.le (le1.trans le2)) hz fun ez st3 h3 v3 H3 w3 le3 ok3 r3 =>
          ⟨w3, st3, ey, ez, ok3, r2.le le3, r3, cmpK_mono (fun z hz => ⟨z, rfl, hz H3 w3 ((le1.trans le2).trans le3) ok3⟩) h3⟩
      | false =>
        have hz := brF' hz; simp only [Bool.false_eq_true, if_false]
        exact ⟨false, rfl, hz H2 w2 (le1.trans le2) ok2⟩
    · cases h
theorem isNon {K : PySem.W.Frag} {H : Hp} {M : Addr → Prop} {v : V} {d : D} (r : Rep K H M v d) : decide (v = V.non) = isNonD d := by
  cases r <;> first | rfl | simp [isNonD]
theorem notNon {K : PySem.W.Frag} {H : Hp} {M : Addr → Prop} {v : V} {d : D} (r : Rep K H M v d) : (!decide (v = V.non)) = !isNonD d := by
  cases r <;> first | rfl | simp [isNonD]
theorem snd_isN {a : IE} (ha : Snd tb a) : Snd tb (.isN a) := by
  refine sndB (f := fun c e => match e with
      | .Compare l [.Is] [.Constant .none _ _] _ => (ck a c).e l
      | _ => false) (fun c X cx e h => ?_) (fun c X cx e h => ?_) (fun _ => rfl)
  · split at h
    · refine PE.mono (pe_cmp (pc_isN (ha.e c X cx _ h)) rfl) fun σ H Q ⟨w, st, env, ok, er, h⟩ => ?_
      refine bE cx.mono a ok er h fun ex st1 h1 v1 H1 w1 le1 ok1 r1 => ?_
      obtain ⟨d, rd, q⟩ := dE_rep r1 h1
      rw [isNon rd]
      exact q _ H1 w1 le1 ok1 (Rep.bl _)
    · cases h
  · split at h
    · refine PT.mono (pt_cmp (pc_isN (ha.e c X cx _ h)) rfl) fun σ H Q ⟨w, st, env, ok, er, h⟩ => ?_
      refine bE cx.mono a ok er h fun ex st1 h1 v1 H1 w1 le1 ok1 r1 => ?_
      obtain ⟨d, rd, q⟩ := dE_rep r1 h1
      rw [isNon rd]
      exact ⟨_, rfl, q H1 w1 le1 ok1⟩
    · cases h
theorem snd_notN {a : IE} (ha : Snd tb a) : Snd tb (.notN a) := by
  refine sndB (f := fun c e => match e with
      | .Compare l [.IsNot] [.Constant .none _ _] _ => (ck a c).e l
      | _ => false) (fun c X cx e h => ?_) (fun c X cx e h => ?_) (fun _ => rfl)
  · split at h
    · refine PE.mono (pe_cmp (pc_notN (ha.e c X cx _ h)) rfl) fun σ H Q ⟨w, st, env, ok, er, h⟩ => ?_
      refine bE cx.mono a ok er h fun ex st1 h1 v1 H1 w1 le1 ok1 r1 => ?_
      obtain ⟨d, rd, q⟩ := dE_rep r1 h1
      rw [notNon rd]
      exact q _ H1 w1 le1 ok1 (Rep.bl _)
    · cases h
  · split at h
    · refine PT.mono (pt_cmp (pc_notN (ha.e c X cx _ h)) rfl) fun σ H Q ⟨w, st, env, ok, er, h⟩ => ?_
      refine bE cx.mono a ok er h fun ex st1 h1 v1 H1 w1 le1 ok1 r1 => ?_
      obtain ⟨d, rd, q⟩ := dE_rep r1 h1
      rw [notNon rd]
      exact ⟨_, rfl, q H1 w1 le1 ok1⟩
    · cases h
theorem PT.pw {X : Cx} {op : BoolOp} {vs : List Expr} {pos : Pos} {t : TT} (h : PT X (.BoolOp op vs pos) t) : PW X (.BoolOp op vs pos) t := ⟨fun wh pins s σ H Q I q => h.run pins s σ H Q I q⟩
theorem snd_an {a b : IE} (ha : Snd tb a) (hb : Snd tb b) : Snd tb (.an a b) := by
  have goe : ∀ {c : Ctx} {X : Cx}, CxOk tb c X → ∀ σ H Q, TEs X.K tb (.an a b) σ H Q → tAndV (TEs X.K tb a) (TEs X.K tb b) σ H Q := fun cx σ H Q ⟨w, st, env, ok, er, h⟩ =>
    bE cx.mono a ok er h fun ex st1 h1 v1 H1 w1 le1 ok1 r1 => by
      split at h1
      · rename_i c
        cases (show Rep _ _ _ v1 _ from r1)
        cases c with
        | true => exact ⟨true, rfl, by simp only [if_true]; exact bE cx.mono b ok1 (er.le le1) (brT' h1) fun ey st2 h2 v2 H2 w2 le2 ok2 r2 => h2 v2 H2 w2 (le1.trans le2) ok2 r2⟩
        | false => exact ⟨false, rfl, by simp only [Bool.false_eq_true, if_false]; exact (brF' h1) _ H1 w1 le1 ok1 (Rep.bl _)⟩
      · exact h1.elim
  have got : ∀ {c : Ctx} {X : Cx}, CxOk tb c X → ∀ σ H Q, TTs X.K tb (.an a b) σ H Q → tAnd (TTs X.K tb a) (TTs X.K tb b) σ H Q := fun cx σ H Q ⟨w, st, env, ok, er, h⟩ =>
    bT cx.mono a ok er h fun x st1 h1 H1 w1 le1 ok1 => by
      cases x with
      | true =>
        have h1 := brT' h1; simp only [if_true]
        exact bT cx.mono b ok1 (er.le le1) h1 fun y st2 h2 H2 w2 le2 ok2 => h2 H2 w2 (le1.trans le2) ok2
      | false =>
        have h1 := brF' h1; simp only [Bool.false_eq_true, if_false]
        exact h1 H1 w1 le1 ok1
  refine ⟨fun c X cx e h => ?_, fun c X cx e h => ?_, fun c X cx es h => absurd (show false = true from h) Bool.false_ne_true, fun c X cx tg it h => absurd (show false = true from h) Bool.false_ne_true, fun c X cx e h => absurd (show false = true from h) Bool.false_ne_true, fun c X cx es h => absurd (show false = true from h) Bool.false_ne_true, fun c X cx o h => absurd (show false = true from h) Bool.false_ne_true⟩
  · have h : bAnd _ _ e = true := h
    unfold bAnd at h
    split at h
    · obtain ⟨h1, h2⟩ := band h
      exact PE.mono (pe_and (ha.e c X cx _ h1) (pe_one (hb.e c X cx _ h2))) (goe cx)
    · obtain ⟨h1, h2⟩ := band h
      exact PE.mono (pe_and (ha.e c X cx _ h1) (hb.e c X cx _ h2)) (goe cx)
    · cases h
  · have h : bAnd _ _ e = true := h
    unfold bAnd at h
    split at h
    · obtain ⟨h1, h2⟩ := band h
      exact PT.mono (pw_and (ha.t c X cx _ h1) (pw_and1 (hb.t c X cx _ h2))).pt (got cx)
    · obtain ⟨h1, h2⟩ := band h
      exact PT.mono (pw_and (ha.t c X cx _ h1) (PT.pw (hb.t c X cx _ h2))).pt (got cx)
    · cases h
theorem snd_oo {a b : IE} (ha : Snd tb a) (hb : Snd tb b) : Snd tb (.oo a b) := by
  have goe : ∀ {c : Ctx} {X : Cx}, CxOk tb c X → ∀ σ H Q, TEs X.K tb (.oo a b) σ H Q → tOrV (TEs X.K tb a) (TEs X.K tb b) σ H Q := fun cx σ H Q ⟨w, st, env, ok, er, h⟩ =>
    bE cx.mono a ok er h fun ex st1 h1 v1 H1 w1 le1 ok1 r1 => by
      split at h1
      · rename_i c
        cases (show Rep _ _ _ v1 _ from r1)
        cases c with
        | true => exact ⟨true, rfl, by simp only [if_true]; exact (brT' h1) _ H1 w1 le1 ok1 (Rep.bl _)⟩
        | false => exact ⟨false, rfl, by simp only [Bool.false_eq_true, if_false]; exact bE cx.mono b ok1 (er.le le1) (brF' h1) fun ey st2 h2 v2 H2 w2 le2 ok2 r2 => h2 v2 H2 w2 (le1.trans le2) ok2 r2⟩
      · exact h1.elim
  have got : ∀ {c : Ctx} {X : Cx}, CxOk tb c X → ∀ σ H Q, TTs X.K tb (.oo a b) σ H Q → tOr (TTs X.K tb a) (TTs X.K tb b) σ H Q := fun cx σ H Q ⟨w, st, env, ok, er, h⟩ =>
    bT cx.mono a ok er h fun x st1 h1 H1 w1 le1 ok1 => by
      cases x with
      | true =>
        have h1 := brT' h1; simp only [if_true]
        exact h1 H1 w1 le1 ok1
      | false =>
        have h1 := brF' h1; simp only [Bool.false_eq_true, if_false]
        exact bT cx.mono b ok1 (er.le le1) h1 fun y st2 h2 H2 w2 le2 ok2 => h2 H2 w2 (le1.trans le2) ok2
  refine ⟨fun c X cx e h => ?_, fun c X cx e h => ?_, fun c X cx es h => absurd (show false = true from h) Bool.false_ne_true, fun c X cx tg it h => absurd (show false = true from h) Bool.false_ne_true, fun c X cx e h => absurd (show false = true from h) Bool.false_ne_true, fun c X cx es h => absurd (show false = true from h) Bool.false_ne_true, fun c X cx o h => absurd (show false = true from h) Bool.false_ne_true⟩
  · have h : bOr _ _ e = true := h
    unfold bOr at h
    split at h
    · obtain ⟨h1, h2⟩ := band h
      exact PE.mono (pe_or (ha.e c X cx _ h1) (pe_one (hb.e c X cx _ h2))) (goe cx)
    · obtain ⟨h1, h2⟩ := band h
      exact PE.mono (pe_or (ha.e c X cx _ h1) (hb.e c X cx _ h2)) (goe cx)
    · cases h
  · have h : bOr _ _ e = true := h
    unfold bOr at h
    split at h
    · obtain ⟨h1, h2⟩ := band h
      exact PT.mono (pw_or (ha.t c X cx _ h1) (pw_or1 (hb.t c X cx _ h2))).pt (got cx)
    · obtain ⟨h1, h2⟩ := band h
      exact PT.mono (pw_or (ha.t c X cx _ h1) (PT.pw (hb.t c X cx _ h2))).pt (got cx)
    · cases h
theorem snd_ife {t a b : IE} (hc : Snd tb t) (ha : Snd tb a) (hb : Snd tb b) : Snd tb (.ife t a b) := sndE (f := fun c e => match e with
      | .IfExp q x y _ => (ck t c).t q && ((ck a c).e x && (ck b c).e y)
      | _ => false) (fun c X cx e h => by
  split at h
  · obtain ⟨h1, h2⟩ := band h
    obtain ⟨h2, h3⟩ := band h2
    refine PE.mono (pe_ifExp (hc.t c X cx _ h1) (ha.e c X cx _ h2) (hb.e c X cx _ h3)) fun σ H Q ⟨w, st, env, ok, er, h⟩ => ?_
    refine bT cx.mono t ok er h fun x st1 h1 H1 w1 le1 ok1 => ?_
    cases x with
    | true =>
      have h1 := brT' h1; simp only [if_true]
      exact bE cx.mono a ok1 (er.le le1) h1 fun y st2 h2 v2 H2 w2 le2 ok2 r2 => h2 v2 H2 w2 (le1.trans le2) ok2 r2
    | false =>
      have h1 := brF' h1; simp only [Bool.false_eq_true, if_false]
      exact bE cx.mono b ok1 (er.le le1) h1 fun y st2 h2 v2 H2 w2 le2 ok2 r2 => h2 v2 H2 w2 (le1.trans le2) ok2 r2
  · cases h) (fun _ => rfl)
end
end VI

/-! VI10: the soundness of expressions: lists, displays, subscripts, calls, comprehensions. -/
namespace VI
open PySem PySem.Spec PyProof.Rows L2
section
variable {tb : Tb}
theorem ff {p : Prop} (h : false = true) : p := absurd h Bool.false_ne_true
theorem asg_of {e : Expr} {es : List Expr} {env : Env} (h : notStar e = true) : assignEach (e :: es) env = (false, assign e env) :: assignEach es env := by
  cases e <;> first | rfl | cases h
theorem snd_nil : Snd tb .nil where
  e := fun c X cx e h => ff h
  t := fun c X cx e h => ff h
  l := fun c X cx es h => by
    have h : es.isEmpty = true := h
    cases es with
    | nil => exact ⟨PA.mono pa_nil fun σ H Q ⟨w, st, env, ok, er, h⟩ => h [] H w Le.refl ok .nil rfl, fun _ => rfl⟩
    | cons _ _ => cases h
  i := fun c X cx tg it h => ff h
  g := fun c X cx e h => ff h
  gl := fun c X cx es h => by
    have h : es.isEmpty = true := h
    cases es with
    | nil =>
      refine ⟨⟨fun pins s σ H vs u Q I r h => ?_⟩, fun _ => ⟨rfl, rfl⟩⟩
      obtain ⟨w, st, env, ds, ok, er, rs, hl, e, q⟩ := h
      refine pgs_nil.run pins s σ H vs u Q I r ⟨?_, q σ er Chg.refl⟩
      exact List.length_eq_zero_iff.mp hl
    | cons _ _ => cases h
  o := fun c X cx o h => by
    have h : o.isNone = true := h
    cases o with
    | none => exact PO.mono po_none fun σ H Q ⟨w, st, env, ok, er, h⟩ => h H w Le.refl ok
    | some _ => cases h
theorem PGs.mono {X : Cx} {e : List Expr} {t t' : L2.TGs} (h : PGs X e t) (m : ∀ v σ H Q, t' v σ H Q → t v σ H Q) : PGs X e t' := ⟨fun pins s σ H v u Q I r q => h.run pins s σ H v u Q I r (m v σ H Q q)⟩
theorem snd_cons {a r : IE} (ha : Snd tb a) (hr : Snd tb r) : Snd tb (.cons a r) where
  e := fun c X cx e h => ff h
  t := fun c X cx e h => ff h
  l := fun c X cx es h => by
    cases es with
    | nil => exact ff h
    | cons e es =>
      have h : (notStar e && ((ck a c).e e && (ck r c).l es)) = true := h
      obtain ⟨h1, h2⟩ := band h
      obtain ⟨h2, h3⟩ := band h2
      obtain ⟨p1, p2⟩ := hr.l c X cx es h3
      refine ⟨PA.mono (pa_cons (ha.e c X cx e h2) p1 (star_of h1)) fun σ H Q ⟨w, st, env, ok, er, h⟩ => ?_, fun env => ?_⟩
      · exact bE cx.mono a ok er h fun ev st1 h1 v H1 w1 le1 ok1 r1 => bL cx.mono r ok1 (er.le le1) h1 fun evs st2 h2 vs H2 w2 le2 ok2 r2 hl =>
          h2 (v :: vs) H2 w2 (le1.trans le2) ok2 (.cons (r1.le le2) r2) (by rw [List.length_cons, List.length_cons, hl])
      · rw [star_of h1, List.any_cons, p2 env]
        rfl
  i := fun c X cx tg it h => ff h
  g := fun c X cx e h => ff h
  gl := fun c X cx es h => by
    cases es with
    | nil => exact ff h
    | cons e es =>
      have h : (notStar e && ((ck a c).g e && (ck r c).gl es)) = true := h
      obtain ⟨h1, h2⟩ := band h
      obtain ⟨h2, h3⟩ := band h2
      obtain ⟨p1, p2⟩ := hr.gl c X cx es h3
      refine ⟨PGs.mono (pgs_cons (ha.g c X cx e h2) p1 (by rw [asg_of h1]; rfl)) fun vs σ H Q ⟨w, st, env, ds, ok, er, rs, hl, h⟩ => ?_, fun env => ?_⟩
      · cases rs with
        | nil => exact h.elim
        | cons r0 rs =>
          refine ⟨_, _, rfl, w, st, env, .d _, ok, er, r0, (sem_mono cx.mono a).a _ _ _ _ (fun env' h σ' er' ch => ?_) h⟩
          exact ⟨w, st, env', _, ok, er', rs, by simpa using hl, (sem_mono cx.mono r).al _ _ _ _ (fun env2 h σ2 er2 ch2 => h σ2 er2 (ch.trans ch2)) h⟩
      · rw [asg_of h1]
        obtain ⟨q1, q2⟩ := p2 env
        refine ⟨by rw [List.length_cons, List.length_cons, q1], ?_⟩
        rw [List.findIdx?_cons]
        simp only [Bool.false_eq_true, if_false]
        rw [q2]
        rfl
  o := fun c X cx o h => ff h
/-! ### stores reach their end -/
theorem tup_a {r : IE} {ev : EV} {env : En} {k : En → Prop} (h : (sem tb (.tup r)).a ev env k) : ∃ xs, (ev = .d (.tuple xs) ∨ ev = .d (.list xs)) ∧ (sem tb r).al xs env k := by
  cases ev with
  | d x =>
    cases x with
    | tuple xs => exact ⟨xs, .inl rfl, h⟩
    | list xs => exact ⟨xs, .inr rfl, h⟩
    | _ => exact h.elim
  | _ => exact h.elim
theorem strict (tb : Tb) : ∀ ie : IE, (∀ ev env k, (sem tb ie).a ev env k → ∃ env', k env') ∧ ∀ ds env k, (sem tb ie).al ds env k → ∃ env', k env'
  | .var i => ⟨fun ev env k h => ⟨_, h⟩, fun _ _ _ h => h.elim⟩
  | .nil => ⟨fun _ _ _ h => h.elim, fun ds env k h => ⟨_, h.2⟩⟩
  | .cons a r => ⟨fun _ _ _ h => h.elim, fun ds env k h => by
    cases ds with
    | nil => exact h.elim
    | cons d ds =>
      obtain ⟨e1, h1⟩ := (strict tb a).1 _ _ _ h
      exact (strict tb r).2 _ _ _ h1⟩
  | .tup r => ⟨fun ev env k h => by
    obtain ⟨xs, _, h⟩ := tup_a h
    exact (strict tb r).2 _ _ _ h, fun _ _ _ h => h.elim⟩
  | .cst _ => ⟨fun _ _ _ h => h.elim, fun _ _ _ h => h.elim⟩
  | .glo _ => ⟨fun _ _ _ h => h.elim, fun _ _ _ h => h.elim⟩
  | .bin _ _ _ => ⟨fun _ _ _ h => h.elim, fun _ _ _ h => h.elim⟩
  | .neg _ => ⟨fun _ _ _ h => h.elim, fun _ _ _ h => h.elim⟩
  | .nt _ => ⟨fun _ _ _ h => h.elim, fun _ _ _ h => h.elim⟩
  | .cmp _ _ _ => ⟨fun _ _ _ h => h.elim, fun _ _ _ h => h.elim⟩
  | .cmp2 _ _ _ _ _ => ⟨fun _ _ _ h => h.elim, fun _ _ _ h => h.elim⟩
  | .isN _ => ⟨fun _ _ _ h => h.elim, fun _ _ _ h => h.elim⟩
  | .notN _ => ⟨fun _ _ _ h => h.elim, fun _ _ _ h => h.elim⟩
  | .an _ _ => ⟨fun _ _ _ h => h.elim, fun _ _ _ h => h.elim⟩
  | .oo _ _ => ⟨fun _ _ _ h => h.elim, fun _ _ _ h => h.elim⟩
  | .ife _ _ _ => ⟨fun _ _ _ h => h.elim, fun _ _ _ h => h.elim⟩
  | .lst _ _ => ⟨fun _ _ _ h => h.elim, fun _ _ _ h => h.elim⟩
  | .ixc _ _ => ⟨fun _ _ _ h => h.elim, fun _ _ _ h => h.elim⟩
  | .ix _ _ => ⟨fun _ _ _ h => h.elim, fun _ _ _ h => h.elim⟩
  | .sl _ _ _ _ => ⟨fun _ _ _ h => h.elim, fun _ _ _ h => h.elim⟩
  | .call _ _ => ⟨fun _ _ _ h => h.elim, fun _ _ _ h => h.elim⟩
  | .blt _ _ _ => ⟨fun _ _ _ h => h.elim, fun _ _ _ h => h.elim⟩
  | .cmpr _ _ _ _ _ _ => ⟨fun _ _ _ h => h.elim, fun _ _ _ h => h.elim⟩
  | .rng _ => ⟨fun _ _ _ h => h.elim, fun _ _ _ h => h.elim⟩
  | .enm _ => ⟨fun _ _ _ h => h.elim, fun _ _ _ h => h.elim⟩
  | .zp _ => ⟨fun _ _ _ h => h.elim, fun _ _ _ h => h.elim⟩
  | .isi _ _ => ⟨fun _ _ _ h => h.elim, fun _ _ _ h => h.elim⟩
  | .scons _ _ => ⟨fun _ _ _ h => h.elim, fun _ _ _ h => h.elim⟩
  | .tupS _ => ⟨fun _ _ _ h => h.elim, fun _ _ _ h => h.elim⟩
  | .lstS _ _ => ⟨fun _ _ _ h => h.elim, fun _ _ _ h => h.elim⟩
  | .srs _ _ => ⟨fun _ _ _ h => h.elim, fun _ _ _ h => h.elim⟩
  | .srl _ _ => ⟨fun _ _ _ h => h.elim, fun _ _ _ h => h.elim⟩
  | .lop _ _ _ _ => ⟨fun _ _ _ h => h.elim, fun _ _ _ h => h.elim⟩
  | .idx _ _ => ⟨fun _ _ _ h => h.elim, fun _ _ _ h => h.elim⟩
  | .dget _ _ _ => ⟨fun _ _ _ h => h.elim, fun _ _ _ h => h.elim⟩
  | .dix _ _ _ => ⟨fun _ _ _ h => h.elim, fun _ _ _ h => h.elim⟩
  | .callS _ _ _ => ⟨fun _ _ _ h => h.elim, fun _ _ _ h => h.elim⟩
  | .cmpr2 _ _ _ _ _ _ _ _ _ => ⟨fun _ _ _ h => h.elim, fun _ _ _ h => h.elim⟩
  | .isB _ _ _ => ⟨fun _ _ _ h => h.elim, fun _ _ _ h => h.elim⟩
  | .sri _ _ => ⟨fun _ _ _ h => h.elim, fun _ _ _ h => h.elim⟩
  | .ssi _ _ => ⟨fun _ _ _ h => h.elim, fun _ _ _ h => h.elim⟩
  | .callG _ _ => ⟨fun _ _ _ h => h.elim, fun _ _ _ h => h.elim⟩
  | .rgv _ _ _ => ⟨fun _ _ _ h => h.elim, fun _ _ _ h => h.elim⟩
  | .srd _ _ => ⟨fun _ _ _ h => h.elim, fun _ _ _ h => h.elim⟩
  | .callP _ _ _ _ => ⟨fun _ _ _ h => h.elim, fun _ _ _ h => h.elim⟩
  | .rev _ _ => ⟨fun _ _ _ h => h.elim, fun _ _ _ h => h.elim⟩
theorem al_len {c : Ctx} : ∀ {r : IE} {es : List Expr} {ds : List D} {env : En} {k : En → Prop}, (ck r c).gl es = true → (sem tb r).al ds env k → ds.length = es.length
  | .nil, es, ds, env, k, h, q => by
    have h : es.isEmpty = true := h
    rw [q.1, List.isEmpty_iff.mp h]
    rfl
  | .cons a r, es, ds, env, k, h, q => by
    cases es with
    | nil => exact ff h
    | cons e es =>
      have h : (notStar e && ((ck a c).g e && (ck r c).gl es)) = true := h
      have h3 := (band (band h).2).2
      cases ds with
      | nil => exact q.elim
      | cons d ds =>
        obtain ⟨env', q⟩ := (strict tb a).1 _ _ _ q
        rw [List.length_cons, List.length_cons, al_len h3 q]
  | .var _, _, _, _, _, h, _ => ff h
  | .tup _, _, _, _, _, h, _ => ff h
  | .cst _, _, _, _, _, h, _ => ff h
  | .glo _, _, _, _, _, h, _ => ff h
  | .bin _ _ _, _, _, _, _, h, _ => ff h
  | .neg _, _, _, _, _, h, _ => ff h
  | .nt _, _, _, _, _, h, _ => ff h
  | .cmp _ _ _, _, _, _, _, h, _ => ff h
  | .cmp2 _ _ _ _ _, _, _, _, _, h, _ => ff h
  | .isN _, _, _, _, _, h, _ => ff h
  | .notN _, _, _, _, _, h, _ => ff h
  | .an _ _, _, _, _, _, h, _ => ff h
  | .oo _ _, _, _, _, _, h, _ => ff h
  | .ife _ _ _, _, _, _, _, h, _ => ff h
  | .lst _ _, _, _, _, _, h, _ => ff h
  | .ixc _ _, _, _, _, _, h, _ => ff h
  | .ix _ _, _, _, _, _, h, _ => ff h
  | .sl _ _ _ _, _, _, _, _, h, _ => ff h
  | .call _ _, _, _, _, _, h, _ => ff h
  | .blt _ _ _, _, _, _, _, h, _ => ff h
  | .cmpr _ _ _ _ _ _, _, _, _, _, h, _ => ff h
  | .rng _, _, _, _, _, h, _ => ff h
  | .enm _, _, _, _, _, h, _ => ff h
  | .zp _, _, _, _, _, h, _ => ff h
  | .isi _ _, _, _, _, _, h, _ => ff h
  | .scons _ _, _, _, _, _, h, _ => ff h
  | .tupS _, _, _, _, _, h, _ => ff h
  | .lstS _ _, _, _, _, _, h, _ => ff h
  | .srs _ _, _, _, _, _, h, _ => ff h
  | .srl _ _, _, _, _, _, h, _ => ff h
  | .lop _ _ _ _, _, _, _, _, h, _ => ff h
  | .idx _ _, _, _, _, _, h, _ => ff h
  | .dget _ _ _, _, _, _, _, h, _ => ff h
  | .dix _ _ _, _, _, _, _, h, _ => ff h
theorem l_cons {c : Ctx} {e : Expr} {es : List Expr} : ∀ {r : IE}, (ck r c).l (e :: es) = true → ∃ a r', r = .cons a r' ∧ notStar e = true ∧ (ck a c).e e = true ∧ (ck r' c).l es = true
  | .nil, h => ff h
  | .cons a r, h => by
    have h : (notStar e && ((ck a c).e e && (ck r c).l es)) = true := h
    exact ⟨a, r, rfl, (band h).1, (band (band h).2).1, (band (band h).2).2⟩
  | .var _, h => ff h
  | .tup _, h => ff h
  | .cst _, h => ff h
  | .glo _, h => ff h
  | .bin _ _ _, h => ff h
  | .neg _, h => ff h
  | .nt _, h => ff h
  | .cmp _ _ _, h => ff h
  | .cmp2 _ _ _ _ _, h => ff h
  | .isN _, h => ff h
  | .notN _, h => ff h
  | .an _ _, h => ff h
  | .oo _ _, h => ff h
  | .ife _ _ _, h => ff h
  | .lst _ _, h => ff h
  | .ixc _ _, h => ff h
  | .ix _ _, h => ff h
  | .sl _ _ _ _, h => ff h
  | .call _ _, h => ff h
  | .blt _ _ _, h => ff h
  | .cmpr _ _ _ _ _ _, h => ff h
  | .rng _, h => ff h
  | .enm _, h => ff h
  | .zp _, h => ff h
  | .isi _ _, h => ff h
  | .scons _ _, h => ff h
  | .tupS _, h => ff h
  | .lstS _ _, h => ff h
  | .srs _ _, h => ff h
  | .srl _ _, h => ff h
  | .lop _ _ _ _, h => ff h
  | .idx _ _, h => ff h
  | .dget _ _ _, h => ff h
  | .dix _ _ _, h => ff h
theorem l_nil {c : Ctx} : ∀ {r : IE}, (ck r c).l [] = true → r = .nil
  | .nil, h => rfl
  | .cons a r, h => ff h
  | .var _, h => ff h
  | .tup _, h => ff h
  | .cst _, h => ff h
  | .glo _, h => ff h
  | .bin _ _ _, h => ff h
  | .neg _, h => ff h
  | .nt _, h => ff h
  | .cmp _ _ _, h => ff h
  | .cmp2 _ _ _ _ _, h => ff h
  | .isN _, h => ff h
  | .notN _, h => ff h
  | .an _ _, h => ff h
  | .oo _ _, h => ff h
  | .ife _ _ _, h => ff h
  | .lst _ _, h => ff h
  | .ixc _ _, h => ff h
  | .ix _ _, h => ff h
  | .sl _ _ _ _, h => ff h
  | .call _ _, h => ff h
  | .blt _ _ _, h => ff h
  | .cmpr _ _ _ _ _ _, h => ff h
  | .rng _, h => ff h
  | .enm _, h => ff h
  | .zp _, h => ff h
  | .isi _ _, h => ff h
  | .scons _ _, h => ff h
  | .tupS _, h => ff h
  | .lstS _ _, h => ff h
  | .srs _ _, h => ff h
  | .srl _ _, h => ff h
  | .lop _ _ _ _, h => ff h
  | .idx _ _, h => ff h
  | .dget _ _ _, h => ff h
  | .dix _ _ _, h => ff h
/-! ### displays -/
theorem line1k {n : Nat} (h : n ≤ 1000) : n ≤ sizeLine := by
  rw [sizeLine_eq]; omega
theorem e_tup {r : IE} (hr : Snd tb r) {c : Ctx} {X : Cx} (cx : CxOk tb c X) {e : Expr} (h : (match e with
      | .Tuple es _ _ => decide (es.length ≤ 1000) && (ck r c).l es
      | _ => false) = true) : PE X e (TEs X.K tb (.tup r)) := by
  split at h
  · obtain ⟨h1, h2⟩ := band h
    refine PE.mono (pe_tup (hr.l c X cx _ h2).1) fun σ H Q ⟨w, st, env, ok, er, h⟩ => ?_
    refine bL cx.mono r ok er h fun evs st1 q vs H1 w1 le1 ok1 r1 hl => ?_
    obtain ⟨ds, rs, q⟩ := allD_rep r1 q
    refine ⟨line1k (by rw [hl]; exact of_decide_eq_true h1), fun p n => ?_⟩
    obtain ⟨a, b, d⟩ := new_tup n ok1 rs
    exact q _ _ w1 (le1.trans a) b d
  · cases h
theorem pg_seq2 {X : Cx} {pos : Pos} {es : List Expr} {k : Nat} {t : TGs} {n : Nat} (hc : X.calm = true) (h : PGs X es t)
    (hn : (assignEach es X.env).length = n) (hst : (assignEach es X.env).findIdx? (·.1) = none) : PG X (.Tuple es k pos) (fun v σ H Q => gTup X.K n t v σ H Q ∨ gLst X.K n t v σ H Q) :=
  ⟨fun pins s σ H v u Q I r hw => hw.elim (fun z => (pg_tup hc h hn hst).run pins s σ H v u Q I r z) fun z => (pg_lst hc h hn hst).run pins s σ H v u Q I r z⟩
theorem g_tup {r : IE} (hr : Snd tb r) {c : Ctx} {X : Cx} (cx : CxOk tb c X) {e : Expr} (h : (match e with
        | .Tuple es _ _ => (ck r c).gl es
        | _ => false) = true) : PG X e (TGs1 X.K tb (.tup r)) := by
  split at h
  · obtain ⟨p1, p2⟩ := hr.gl c X cx _ h
    refine PG.mono (pg_seq2 cx.xo.calm p1 (p2 _).1 (p2 _).2) fun v σ H Q ⟨w, st, env, ev, ok, er, r0, q⟩ => ?_
    obtain ⟨xs, rfl | rfl, q⟩ := tup_a q
    · cases (show Rep _ _ _ v _ from r0) with
      | tup f rs =>
        have hl := al_len h q
        exact .inl ⟨_, _, rfl, f.sq, by rw [rs.length]; exact hl, w, st, env, _, ok, er, rs, by rw [rs.length]; exact hl, q⟩
    · cases (show Rep _ _ _ v _ from r0) with
      | lst f m rs =>
        have hl := al_len h q
        exact .inr ⟨_, _, rfl, .inl (.inl f), by rw [rs.length]; exact hl, w, st, env, _, ok, er, rs, by rw [rs.length]; exact hl, q⟩
  · cases h
theorem snd_tup {r : IE} (hr : Snd tb r) : Snd tb (.tup r) where
  e := fun c X cx e h => e_tup hr cx h
  t := fun c X cx e h => by
    have h2 := band (show ((ck (.tup r) c).e e && plainT e) = true from h)
    exact fT cx (e_tup hr cx h2.1) h2.2 fun _ _ _ => rfl
  l := fun c X cx es h => ff h
  i := fun c X cx tg it h => fI cx (e_tup hr cx h) fun _ _ _ => rfl
  g := fun c X cx e h => g_tup hr cx h
  gl := fun c X cx es h => ff h
  o := fun c X cx o h => by
    cases o with
    | none => exact ff h
    | some e => exact fO cx (e_tup hr cx h) fun _ _ _ => rfl
theorem snd_lst (kd : Nat) {r : IE} (hr : Snd tb r) : Snd tb (.lst kd r) := sndE (f := fun c e => match e with
      | .List es _ => decide (es.length ≤ 1000) && (ck r c).l es
      | _ => false) (fun c X cx e h => by
  split at h
  · obtain ⟨h1, h2⟩ := band h
    refine PE.mono (pe_lst (hr.l c X cx _ h2).1) fun σ H Q ⟨w, st, env, ok, er, h⟩ => ?_
    refine bL cx.mono r ok er h fun evs st1 q vs H1 w1 le1 ok1 r1 hl => ?_
    obtain ⟨ds, rs, q⟩ := allD_rep r1 q
    refine ⟨line1k (by rw [hl]; exact of_decide_eq_true h1), fun p n => ?_⟩
    obtain ⟨ev, w', st', a, b, d, q⟩ := new_lst n ok1 rs q
    exact q _ _ w' (le1.trans a) b d
  · cases h) (fun _ => rfl)
/-! ### subscripts -/
theorem ix_rep {K : PySem.W.Frag} {H H' : Hp} {w : Wd} {st : Sto} {v : V} {ev : EV} {n : Int} {Q : VK} (ok : WOk K H w st) (r : EVRep K H w st v ev) {k : D → Prop} (h : seqE ev st fun _ xs => match L2.atI xs n with
      | some y => k y
      | none => False) (c : ∀ x y, k y → Rep K H (w.M st) x y → Q x H) : rIx K v (.int n) H Q := by
  obtain ⟨b, ds, a, xs, rfl, h1, h2, h3, h4⟩ := seq_rep ok r h
  split at h4
  · rename_i y e
    have e0 := e
    unfold atI at e0
    cases ej : ixN ds.length n with
    | none => rw [ej] at e0; cases e0
    | some j =>
      rw [ej] at e0
      have e0 : ds[j]? = some y := e0
      obtain ⟨u, hu, ru⟩ := h3.get e0
      have ea : atI xs n = some u := by
        unfold atI
        rw [h3.length, ej]
        exact hu
      cases b with
      | true => exact .inl ⟨a, xs, n, u, rfl, rfl, h1 rfl, ea, c u y h4 ru⟩
      | false => exact .inr (.inl ⟨a, xs, n, u, rfl, rfl, (h2 rfl).1, ea, c u y h4 ru⟩)
  · exact h4.elim
theorem snd_ixc {a : IE} (n : Nat) (ha : Snd tb a) : Snd tb (.ixc a n) := sndE (f := fun c e => match e with
      | .Subscript x (.Constant (.int j) _ _) _ => decide (j = (n : Nat)) && (ck a c).e x
      | _ => false) (fun c X cx e h => by
  split at h
  · obtain ⟨h1, h2⟩ := band h
    have h1 := of_decide_eq_true h1
    subst h1
    refine PE.mono (pe_ix ix_seq (ha.e c X cx _ h2) pe_int (plainIx_of rfl)) fun σ H Q ⟨w, st, env, ok, er, h⟩ => ?_
    refine bE cx.mono a ok er h fun ev st1 h1 v H1 w1 le1 ok1 r1 => ?_
    refine ix_rep (H' := H1) (k := fun y => PostW X.K H w st Q (.d y) st1) ok1 r1 (seqE_mono (fun b xs q => ?_) h1) fun x y k r => k x H1 w1 le1 ok1 r
    split at q
    · rename_i e
      rw [atI_nat e]
      exact q
    · exact q.elim
  · cases h) (fun _ => rfl)
theorem snd_ix {a i : IE} (ha : Snd tb a) (hi : Snd tb i) : Snd tb (.ix a i) := sndE (f := fun c e => match e with
      | .Subscript x y _ => notSlice y && ((ck a c).e x && (ck i c).e y)
      | _ => false) (fun c X cx e h => by
  split at h
  · obtain ⟨h1, h2⟩ := band h
    obtain ⟨h2, h3⟩ := band h2
    refine PE.mono (pe_ix ix_seq (ha.e c X cx _ h2) (hi.e c X cx _ h3) (plainIx_of h1)) fun σ H Q ⟨w, st, env, ok, er, h⟩ => ?_
    refine bE cx.mono a ok er h fun ev st1 h1 v H1 w1 le1 ok1 r1 => bE cx.mono i ok1 (er.le le1) h1 fun ej st2 h2 v2 H2 w2 le2 ok2 r2 => ?_
    split at h2
    · cases (show Rep _ _ _ v2 _ from r2)
      exact ix_rep (H' := H2) (k := fun y => PostW X.K H w st Q (.d y) st2) ok2 (r1.le le2) (seqE_mono (fun b xs q => q) h2) fun x y k r => k x H2 w2 (le1.trans le2) ok2 r
    · exact h2.elim
  · cases h) (fun _ => rfl)
theorem snd_sl (kd : Nat) {a lo hi : IE} (ha : Snd tb a) (hl : Snd tb lo) (hh : Snd tb hi) : Snd tb (.sl kd a lo hi) := sndE (f := fun c e => match e with
      | .Subscript x (.Slice l h none _) _ => (ck a c).e x && ((ck lo c).o l && (ck hi c).o h)
      | _ => false) (fun c X cx e h => by
  split at h
  · obtain ⟨h1, h2⟩ := band h
    obtain ⟨h2, h3⟩ := band h2
    refine PE.mono (pe_slice (sl_list.or (sl_tupA.or sl_str)) (ha.e c X cx _ h1) (hl.o c X cx _ h2) (hh.o c X cx _ h3)) fun σ H Q ⟨w, st, env, ok, er, h⟩ => ?_
    refine bE cx.mono a ok er h fun ev st1 h1 v H1 w1 le1 ok1 r1 => bO cx.mono lo ok1 (er.le le1) h1 fun l st2 h2 H2 w2 le2 ok2 => bO cx.mono hi ok2 (er.le (le1.trans le2)) h2 fun u st3 h3 H3 w3 le3 ok3 => ?_
    have le := (le1.trans le2).trans le3
    have r3 := r1.le (le2.trans le3)
    have lst : seqE ev st3 (fun _ xs => newL kd (cutD xs l u) st3 (PostW X.K H w st Q)) → (∀ xs, ev ≠ .d (.tuple xs)) → rSlL X.K v l u H3 Q := fun h nt => by
      obtain ⟨b, ds, a, xs, rfl, g1, g2, g3, g4⟩ := seq_rep ok3 r3 h
      have hb : b = true := by
        cases b with
        | true => rfl
        | false => exact absurd (g2 rfl).2 (nt _)
      refine ⟨a, xs, rfl, g1 hb, fun p n => ?_⟩
      obtain ⟨ev', w', st', x, y, z, q⟩ := new_lst n ok3 (g3.cut l u) g4
      exact q _ _ w' (le.trans x) y z
    split at h3
    · cases (show Rep _ _ _ v _ from r3) with
      | tup f rs =>
        refine .inr (.inl ⟨_, _, rfl, f.sq, fun hw => ?_, fun _ p n => ?_⟩)
        · refine h3 _ _ w3 le ok3 ?_
          have e : ∀ ds : List D, Reps X.K H3 (w3.M st3) _ ds → cutD ds l u = ds := fun ds rs => by
            have hl := rs.length
            unfold cutD
            rw [← hl, hw.1, hw.2, List.drop_zero, Nat.sub_zero, hl, List.take_length]
          rw [e _ rs]
          exact r3
        · obtain ⟨x, y, z⟩ := new_tup n ok3 (rs.cut l u)
          exact h3 _ _ w3 (le.trans x) y z
    · cases (show Rep _ _ _ v _ from r3)
      exact .inr (.inr ⟨_, rfl, h3.1, h3.2 _ _ w3 le ok3 (Rep.str _)⟩)
    · rename_i ht hs
      exact .inl (lst h3 fun xs e => ht xs e)
  · cases h) (fun _ => rfl)
end
end VI

/-! VS: sets of texts, sorted. -/
namespace SS
open PySem PySem.Spec PyProof.Rows
def keyOfS (e : Int × Value) : Str := match e.2 with | .str k _ => k | _ => Str.empty
def GoodS (P : Program) (w : World) (e : Int × Value) : Prop := ∃ k tk, e.2 = Value.str k tk ∧ e.1 = (PySem.strKind P w).hash k
def SetRS (P : Program) (w : World) (h : Heap) (a : Addr) (S : Str → Bool) (n : Nat) : Prop :=
  ∃ o es ep t, h.get? a = some o ∧ o.ExactSet ∧ o.data = .set es ep t ∧ (∀ e ∈ es.toList, GoodS P w e) ∧ (es.toList.map keyOfS).Nodup ∧ (∀ k, S k = true ↔ k ∈ es.toList.map keyOfS) ∧
    es.size < scanBound ∧ t.fits es.size = true ∧ es.size = n ∧ L2.Ris t.place.toList ∧ (w.params.followText "set-order" = true ∨ t.led = true)
section
variable {P : Program} {w : World} {h h' : Heap} {a : Addr} {S : Str → Bool} {n : Nat}
theorem SetRS.at (R : SetRS P w h a S n) (k : ∀ o, h.get? a = some o → h'.get? a = some o) : SetRS P w h' a S n := by
  obtain ⟨o, es, ep, t, ho, r⟩ := R
  exact ⟨o, es, ep, t, k o ho, r⟩
theorem SetRS.lt (R : SetRS P w h a S n) : a < h.objs.size := by
  obtain ⟨o, es, ep, t, ho, r⟩ := R
  exact Heap.lt_size ho
theorem SetRS.congr {S' : Str → Bool} {n' : Nat} (R : SetRS P w h a S n) (e : ∀ k, S' k = S k) (en : n' = n) : SetRS P w h a S' n' := by
  have q : S' = S := funext e
  rw [q, en]; exact R
theorem goodS_elems {l : List (Int × Value)} (g : ∀ e ∈ l, GoodS P w e) : ElemsOf (PySem.strKind P w) l := fun e he => by
  obtain ⟨k, tk, h1, h2⟩ := g e he
  exact ⟨⟨k, by rw [h1]; exact strKind_is P w k tk, h2⟩, by rw [h1] <;> rfl⟩
theorem goodS_is {e : Int × Value} (g : GoodS P w e) (k : Str) : (PySem.strKind P w).is k e.2 = true ↔ keyOfS e = k := by
  obtain ⟨k0, tk, h1, _⟩ := g
  unfold keyOfS
  rw [h1]
  show (PySem.strKind P w).is k (.str k0 tk) = true ↔ k0 = k
  rw [KeyKind.is_eq_decide (strKind_is P w k0 tk) k]
  simp only [decide_eq_true_eq]
  exact ⟨Eq.symm, Eq.symm⟩
theorem goodS_mem {l : List (Int × Value)} (g : ∀ e ∈ l, GoodS P w e) (k : Str) : k ∈ l.map keyOfS ↔ ∃ e ∈ l, (PySem.strKind P w).is k e.2 = true := by
  rw [List.mem_map]
  constructor
  · rintro ⟨e, he, q⟩
    exact ⟨e, he, (goodS_is (g e he) k).2 q⟩
  · rintro ⟨e, he, q⟩
    exact ⟨e, he, (goodS_is (g e he) k).1 q⟩
end

section
variable {P : Program} {w : World} {A : Around} {E : Value → Shared → Prop} {s : Shared} {a : Addr} {S : Str → Bool} {n : Nat}
open L2
theorem setRS_add_tail {g : Bool → Sem Unit} (hg : ∀ (b : Bool) (s₁ : Shared) (Q' : Unit → Shared → Prop), Q' () s₁ → wpAny (model P w) A (g b) Q' E s₁)
    {o : Obj} {es : Array (Int × Value)} {ep : Nat} {t : SetTable} (ho : s.heap.get? a = some o) (hex : o.ExactSet) (hd : o.data = .set es ep t)
    {es1 : Array (Int × Value)} {t2 : SetTable} {S' : Str → Bool} (g1 : ∀ e ∈ es1.toList, GoodS P w e) (nd1 : (es1.toList.map keyOfS).Nodup) (m1 : ∀ k, S' k = true ↔ k ∈ es1.toList.map keyOfS)
    (hb1 : es1.size < scanBound) (hf2 : t2.fits es1.size = true) (hr : Ris t2.place.toList) (hl : w.params.followText "set-order" = true ∨ t2.led = true) {wasDummy : Bool} {R : Option Bool → Shared → Prop}
    (hR : ∀ h', Heap.SameBut a s.heap h' → SetRS P w h' a S' es1.size → R (some true) { s with heap := h' }) :
    wpAny (model P w) A (do
        storeSet a es1 t2
        if (!wasDummy && t2.tooFull) = true then do
            g (relayAll t2 es1 (SetTable.grown es1.size)).2.2
            storeSet a (relayAll t2 es1 (SetTable.grown es1.size)).1 (relayAll t2 es1 (SetTable.grown es1.size)).2.1
            pure (some true)
          else pure (some true)) R E s := by
  refine wpAny_bind (wpAny_storeSet_of ho hd ?_ (fits_of_scanBound hb1))
  have ho1 := store_at (es' := es1) (t' := t2) ho hd
  have sb1 := Heap.SameBut.update s.heap a (Obj.putSet es1 t2)
  split
  · have pm := relayAll_perm t2 es1 (SetTable.grown es1.size)
    have hf3 := relayAll_fits t2 es1 (SetTable.grown es1.size)
    have hr3 := relayAll_ris t2 es1 (SetTable.grown es1.size)
    have hl3 := relayAll_led t2 es1 (SetTable.grown es1.size)
    generalize relayAll t2 es1 (SetTable.grown es1.size) = Z at pm hf3 hr3 hl3 ⊢
    obtain ⟨es2, t3, gave⟩ := Z
    dsimp only at pm hf3 hr3 hl3 ⊢
    have hsz : es2.size = es1.size := by rw [← Array.length_toList, pm.length_eq, Array.length_toList]
    have hb2 : es2.size < scanBound := by rw [hsz]; exact hb1
    refine wpAny_bind (hg _ _ _ ?_)
    refine wpAny_bind (wpAny_storeSet_of ho1 rfl ?_ (fits_of_scanBound hb2))
    have ho2 := store_at (es' := es2) (t' := t3) ho1 rfl
    refine wpAny_pure (hR _ (sb1.trans (Heap.SameBut.update _ a _)) ?_)
    exact ⟨_, es2, _, t3, ho2, hex, rfl, fun e he => g1 e (pm.mem_iff.mp he), (pm.map keyOfS).nodup_iff.mpr nd1, fun k => (m1 k).trans (pm.map keyOfS).mem_iff.symm, hb2, hf3, hsz, hr3,
      hl.imp id fun z => by rw [hl3]; exact z⟩
  · exact wpAny_pure (hR _ sb1 ⟨_, es1, _, t2, ho1, hex, rfl, g1, nd1, m1, hb1, hf2, rfl, hr, hl⟩)

theorem setRS_add_hashed {k : Str} {tk : Tok} {Q : Bool → Shared → Prop} (R : SetRS P w s.heap a S n) (room : n + 1 < scanBound)
    (hQ : ∀ h', Heap.SameBut a s.heap h' → SetRS P w h' a (fun j => S j || decide (j = k)) (if S k = true then n else n + 1) → Q (!S k) { s with heap := h' }) :
    wpAny (model P w) A (setAddHashed a (.str k tk) ((PySem.strKind P w).hash k)) Q E s := by
  obtain ⟨o, es, ep, t, ho, hex, hd, g, nd, hm, hb, hf, hn, hr, hl⟩ := R
  have hkey : (PySem.strKind P w).is k (.str k tk) = true := strKind_is P w k tk
  have hsc : (Value.str k tk).scannable = true := rfl
  have hel : ElemsOf (PySem.strKind P w) es.toList := goodS_elems g
  unfold setAddHashed setAddHashedIn
  refine wpAny_holding (wpAny_bind (wpAny_setState_of ho hd hf ?_))
  dsimp only
  rw [byScan_of hsc hb hel]
  simp only [↓reduceIte]
  unfold setAddByScan
  refine wpAny_bind ?_
  refine wpAny_bind (wpAny_rule ?_)
  refine wpAny_bind (wpAny_setScan_of hkey ho hd hf hel ?_)
  cases hfi : List.findIdx? (fun e => (PySem.strKind P w).is k e.2) es.toList with
  | some j =>
    dsimp only
    obtain ⟨hj, pj, _⟩ := List.findIdx?_eq_some_iff_getElem.mp hfi
    have hSk : S k = true := (hm k).2 ((goodS_mem (P := P) (w := w) g k).2 ⟨es.toList[j], List.getElem_mem hj, pj⟩)
    refine wpAny_pure (wpAny_pure ?_)
    have q := hQ s.heap (Heap.SameBut.refl a s.heap) ⟨o, es, ep, t, ho, hex, hd, g, nd, fun i => by
      rw [Bool.or_eq_true, decide_eq_true_eq, ← hm i]
      exact ⟨fun z => z.elim id (fun e => e ▸ hSk), .inl⟩, hb, hf, by rw [if_pos hSk]; exact hn, hr, hl⟩
    rw [hSk] at q
    exact q
  | none =>
    dsimp only
    have hnk : k ∉ es.toList.map keyOfS := fun z => by
      obtain ⟨e, he, q⟩ := (goodS_mem (P := P) (w := w) g k).1 z
      have c := List.findIdx?_eq_none_iff.mp hfi e he
      rw [q] at c
      cases c
    have hSk : S k = false := by
      cases q : S k with
      | false => rfl
      | true => exact absurd ((hm k).1 q) hnk
    have hgw : ∀ (b : Bool) {s₁ : Shared} {Q' : Unit → Shared → Prop}, Q' () s₁ → wpAny (model P w) A (match b with | true => rule "set.scan.the-table-gave-way" | false => pure ()) Q' E s₁ :=
      fun b s₁ Q' q => by cases b <;> first | exact wpAny_pure q | exact wpAny_rule q
    have pm := layNew_perm t es ((PySem.strKind P w).hash k) (.str k tk)
    have hf1 := layNew_fits t es ((PySem.strKind P w).hash k) (.str k tk)
    have hr1 := layNew_ris t es ((PySem.strKind P w).hash k) (.str k tk) hr
    have hl1 := layNew_led t es ((PySem.strKind P w).hash k) (.str k tk)
    generalize layNew t es ((PySem.strKind P w).hash k) (.str k tk) = Z at pm hf1 hr1 hl1 ⊢
    obtain ⟨es1, t1, wasDummy, gave⟩ := Z
    dsimp only at pm hf1 hr1 hl1 ⊢
    rw [Array.toList_push] at pm
    have pc : es1.toList.Perm (((PySem.strKind P w).hash k, Value.str k tk) :: es.toList) := pm.trans (List.perm_append_singleton _ _)
    have pk : (es1.toList.map keyOfS).Perm (k :: es.toList.map keyOfS) := pc.map keyOfS
    have g1 : ∀ e ∈ es1.toList, GoodS P w e := fun e he => by
      rcases List.mem_cons.mp (pc.mem_iff.mp he) with z | z
      · rw [z]; exact ⟨k, tk, rfl, rfl⟩
      · exact g e z
    have nd1 : (es1.toList.map keyOfS).Nodup := pk.nodup_iff.mpr (List.nodup_cons.mpr ⟨hnk, nd⟩)
    have m1 : ∀ i, (S i || decide (i = k)) = true ↔ i ∈ es1.toList.map keyOfS := fun i => by
      rw [Bool.or_eq_true, decide_eq_true_eq, hm i, pk.mem_iff, List.mem_cons]
      exact Or.comm
    have hsz : es1.size = n + 1 := by rw [← Array.length_toList, pc.length_eq, List.length_cons, Array.length_toList, hn]
    have hb1 : es1.size < scanBound := by rw [hsz]; exact room
    have hled : w.params.followText "set-order" = true ∨ t1.led = true := hl.imp id fun z => by rw [hl1]; exact z
    have fin : ∀ h', Heap.SameBut a s.heap h' → SetRS P w h' a (fun j => S j || decide (j = k)) es1.size → Q true { s with heap := h' } := fun h' sb r => by
      have q := hQ h' sb
      rw [hSk] at q
      rw [hsz] at r
      exact q r
    refine wpAny_bind (hgw _ ?_)
    split
    · refine wpAny_bind ?_
      rw [hashByValue_scannable 8 hsc]
      refine wpAny_pure ?_
      refine setRS_add_tail ?_ ho hex hd g1 nd1 m1 hb1 ?_ ?_ ?_ ?_
      · intro b s₁ Q' q; cases b <;> first | exact wpAny_pure q | exact wpAny_rule q
      · first | (split <;> first | exact hf1 | exact SetTable.fits_plain_off hf1) | exact hf1
      · first | (split <;> exact hr1) | exact hr1
      · first | (split <;> exact hled) | exact hled
      · intro h' sb r; dsimp only; exact wpAny_pure (fin h' sb r)
    · refine wpAny_bind (wpAny_pure ?_)
      simp only [↓reduceIte]
      refine setRS_add_tail ?_ ho hex hd g1 nd1 m1 hb1 hf1 hr1 hled ?_
      · intro b s₁ Q' q; cases b <;> first | exact wpAny_pure q | exact wpAny_rule q
      · intro h' sb r; dsimp only; exact wpAny_pure (fin h' sb r)
theorem setRS_fresh {h : Heap} {a : Addr} (ho : h.get? a = some { cls := .type "set", dict := none, data := .set #[] 0 (.fresh 0 0 (!w.params.followText "set-order")) }) : SetRS P w h a (fun _ => false) 0 :=
  ⟨_, #[], 0, _, ho, ⟨rfl, rfl, rfl⟩, rfl, (fun e he => by simp at he), (by simp), (fun k => by simp), (by decide), (by rfl), rfl, List.Pairwise.nil, by
    show _ ∨ (!w.params.followText "set-order") = true
    cases w.params.followText "set-order"
    · exact .inr rfl
    · exact .inl rfl⟩
end

section
variable {prog : Program} {w : World} {A : Around} {R : Result → Shared → Prop} {I : Addr} {fp wr : List Addr} {G : Array GenState → Array GenState → Prop} {n : Nat} {P : Nat → Value → Prop} {St : Nat → Shared → Prop}
theorem loopStrs (W : WalksS prog w A.in1 I fp wr G n P St) (S : Addr) (hSf : S ∉ fp) (xs : List Str) (hsz : xs.length = n) (hn1 : n < 64)
    (hval : ∀ i v, P i v → ∃ t, v = .str (xs.getD i Str.empty) t) :
    ∀ (k i : Nat) (s : Shared), n - i = k → i ≤ n → St i s →
      (∃ m, m ≤ i ∧ SetRS prog w s.heap S (fun k' => (xs.take i).any (· == k')) m) →
      (∀ s', Moved (S :: wr) G s s' → (∃ m, m ≤ n ∧ SetRS prog w s'.heap S (fun k' => (xs.take n).any (· == k')) m) → R (.ok (.ret .none)) s') →
      codeAny (model prog w) A (.builtin "set.update.loop" ⟨[.ref S, .ref I], []⟩) R s := by
  have hSw : S ∉ wr := fun h => hSf (W.sub _ h)
  have hsub : ∀ b ∈ wr, b ∈ S :: wr := fun b hb => List.mem_cons_of_mem _ hb
  intro k
  induction k with
  | zero =>
    intro i s hk hi hst ⟨m, hm1, hS⟩ hR
    have hin : i = n := by omega
    subst hin
    refine codeAny_builtin PyProof.Rows.F.entry_set_update_loop ?_
    rw [Around.under_plainId PyProof.Rows.F.plain_set_update_loop _]
    show wpAny _ A.in1 (pyNext (.ref I) >>= _) _ _ s
    refine wpAny_bind (W.done s _ _ hst fun s' hm => ?_)
    show wpAny _ A.in1 (ret Value.none) _ _ s'
    exact wpAny_pure (hR s' (hm.mono hsub) ⟨m, hm1, hS.at fun o e => hm.heap S o hSw e⟩)
  | succ k ih =>
    intro i s hk hi hst ⟨m, hm1, hS⟩ hR
    have hlt : i < n := by omega
    refine codeAny_builtin PyProof.Rows.F.entry_set_update_loop ?_
    rw [Around.under_plainId PyProof.Rows.F.plain_set_update_loop _]
    show wpAny _ A.in1 (pyNext (.ref I) >>= _) _ _ s
    refine wpAny_bind (W.item i s _ _ hlt hst fun v s' hP hst' hm => ?_)
    obtain ⟨t, rfl⟩ := hval i v hP
    have hS' : SetRS prog w s'.heap S (fun k' => (xs.take i).any (· == k')) m := hS.at fun o e => hm.heap S o hSw e
    show wpAny _ A.in1 (holding [Value.str (xs.getD i Str.empty) t] (setAdd S (.str (xs.getD i Str.empty) t)) >>= _) _ _ s'
    refine wpAny_bind (wpAny_holding ?_)
    unfold setAdd
    refine wpAny_holding ?_
    refine wpAny_bind ((PySem.strKind prog w).pyHash (k := xs.getD i Str.empty) (strKind_is _ _ _ _) ?_)
    refine setRS_add_hashed (s := { s' with toks := s'.toks + 1 }) hS' (by unfold scanBound; omega) fun h' hsb hS2 => ?_
    have hxi : xs[i]? = some (xs.getD i Str.empty) := by
      rw [List.getD_eq_getElem?_getD, List.getElem?_eq_getElem (by omega)]
      rfl
    have hSi : ∃ m, m ≤ i + 1 ∧ SetRS prog w h' S (fun k' => (xs.take (i + 1)).any (· == k')) m := by
      refine ⟨_, ?_, hS2.congr (fun k' => ?_) rfl⟩
      · split <;> omega
      · rw [List.take_add_one, hxi, List.any_append]
        show (_ || ((xs.getD i Str.empty == k') || false)) = _
        rw [Bool.or_false]
        congr 1
        by_cases e : k' = xs.getD i Str.empty
        · rw [e]; simp
        · have hb : (xs.getD i Str.empty == k') = false := beq_eq_false_iff_ne.mpr fun z => e z.symm
          rw [hb, decide_eq_false e]
    refine wpAny_pure ⟨plainId_quiet PyProof.Rows.F.plain_set_update_loop _, ih (i + 1) _ (by omega) hlt (W.frame _ s' _ _ hst' (Nat.le_succ _) fun b hb o e => ?_) hSi fun s'' hm'' hS'' => ?_⟩
    · rw [hsb.2 b (fun h : b = S => hSf (by rw [← h]; exact hb))]; exact e
    · refine hR s'' (Moved.trans W.gtrans ((hm.mono hsub).then_heap (Nat.le_succ _) fun b o hb e => ?_) hm'') hS''
      rw [hsb.2 b (fun h : b = S => hb (by rw [h]; exact List.mem_cons_self))]; exact e
end

section
variable {prog : Program} {w : World} {A : Around} {E : Value → Shared → Prop} {s : Shared}
open L2
theorem call_set_strs {l : Addr} {items : Array Value} {xs : List Str} {Q : Value → Shared → Prop}
    (hh : A.handled = none) (hl : s.heap.IsList l items) (hi : PyProof.Rows.StrsAre items.toList xs) (hn1 : xs.length < 64)
    (h : ∀ (h' : Heap) (tk m : Nat), m ≤ xs.length → SetRS prog w h' s.heap.objs.size (fun k' => xs.any (· == k')) m →
      (∀ b o, b < s.heap.objs.size → s.heap.get? b = some o → h'.get? b = some o) → Q (.ref s.heap.objs.size) { s with heap := h', toks := tk }) :
    wpAny (model prog w) A (call (.type "set") [.ref l]) Q E s := by
  obtain ⟨c, tl, hmro⟩ := PySem.F.called_set.mro
  have hmade := PySem.F.called_set.made
  have hsub := PySem.F.called_set.sub
  have hsz : xs.length = items.size := by rw [← StrsAre.len_eq hi, Array.length_toList]
  refine wpAny_call (codeAny_of_tree ?_)
  show wpAny _ _ (callAny (.type "set") _) _ _ _
  refine wpAny_pure ⟨Code.quiet_builtin _ (by decide +kernel), codeAny_builtin PySem.F.entry_type_call ?_⟩
  rw [Around.under_plain (weight_type_call_type "set" [.ref l] []) rfl]
  have h1 := PySem.F.called_set.notType
  have h2 := PySem.F.called_set.canCreate
  have hct := PySem.F.typeCall_set_1 (.ref l)
  repeat (any_goals (first | assumption | wp_step))

  refine codeAny_mono (code_set_led1 (.ref l) (E := E) (Q₁ := fun obj s₁ => obj = .ref s.heap.objs.size ∧ s₁ = { s with heap := s.heap.push { cls := .type "set", dict := none, data := .set #[] 0 (.fresh 0 0 (!w.params.followText "set-order")) } }) ⟨rfl, rfl⟩) fun r s₁ hr => ?_
  cases r with
  | error e => exact hr
  | ok fl =>
    cases fl with
    | ret obj =>
      obtain ⟨rfl, rfl⟩ := hr
      have hS : (s.heap.push { cls := .type "set", dict := none, data := .set #[] 0 (.fresh 0 0 (!w.params.followText "set-order")) }).get? s.heap.objs.size = some { cls := .type "set", dict := none, data := .set #[] 0 (.fresh 0 0 (!w.params.followText "set-order")) } := Heap.get?_push_size _ rfl
      have hT : Shared.TypeIs { s with heap := s.heap.push { cls := .type "set", dict := none, data := .set #[] 0 (.fresh 0 0 (!w.params.followText "set-order")) } } (.ref s.heap.objs.size) "set" := ⟨_, hS, rfl⟩
      have hli := PySem.F.called_set.init.lookup
      have hbi := PySem.F.called_set.init.bind (.ref s.heap.objs.size)
      repeat (any_goals (first | assumption | wp_step))

      refine codeAny_mono (codeAny_call_builtin (R := wants (fun r s₂ => r = .none ∧ ∃ h' tk m, s₂ = { s with heap := h', toks := tk } ∧ m ≤ xs.length ∧
          SetRS prog w h' s.heap.objs.size (fun k' => xs.any (· == k')) m ∧
          (∀ b o, b < s.heap.objs.size → s.heap.get? b = some o → h'.get? b = some o)) E) PySem.F.called_set.init.plain PySem.F.entry_set_init (check_set_init_1 hT ?_)) fun r₂ s₂ hr₂ => ?_
      · obtain ⟨ol, hol, hcl, nl, hdl⟩ := hl
        obtain ⟨ocls, odict, odata, oslots⟩ := ol
        simp only at hcl hdl
        subst hcl; subst hdl
        have hol' : (s.heap.push { cls := .type "set", dict := none, data := .set #[] 0 (.fresh 0 0 (!w.params.followText "set-order")) }).get? l = some { cls := .type "list", dict := odict, data := .seq items nl, slots := oslots } := Heap.get?_push_of_some _ hol
        have hsls := PySem.F.sub_list_set
        have hslf := PySem.F.sub_list_frozenset
        have hne : (Value.type "list" == Value.type "dict") = false := by decide
        have hl1 : (s.heap.push { cls := .type "set", dict := none, data := .set #[] 0 (.fresh 0 0 (!w.params.followText "set-order")) }).IsList l items := ⟨_, hol', rfl, nl, rfl⟩
        unfold Builtin.«set.__init__» noKeywords Builtin.Frozenset.updateFrom
        generalize hPI : pyIter = PI
        wp_walk
        subst hPI

        refine wpAny_pyIter_list hl1 ?_
        refine wpAny_bind (wpAny_runValue ?_)
        have hlS : l < s.heap.objs.size := Heap.lt_size hol
        have hh3 : A.in1.in1.in1.handled = none := by simp [hh]
        have hneI : l ≠ (s.heap.push { cls := .type "set", dict := none, data := .set #[] 0 (.fresh 0 0 (!w.params.followText "set-order")) }).objs.size := by
          rw [Heap.size_push]; exact Nat.ne_of_lt (Nat.lt_succ_of_lt hlS)
        have hSf : s.heap.objs.size ∉ [(s.heap.push { cls := .type "set", dict := none, data := .set #[] 0 (.fresh 0 0 (!w.params.followText "set-order")) }).objs.size, l] := by
          rw [Heap.size_push]; simp only [List.mem_cons, List.mem_singleton, List.not_mem_nil, or_false, not_or]
          exact ⟨Nat.ne_of_lt (Nat.lt_succ_self _), Nat.ne_of_gt hlS⟩
        have hval : ∀ (i : Nat) (v : Value), items[i]? = some v → ∃ t, v = .str (xs.getD i Str.empty) t := fun i v hv => strs_at hi i v (by rw [Array.getElem?_toList]; exact hv)
        refine loopStrs ((Walks.list hh3 _ l hneI items).toS) s.heap.objs.size
          hSf xs hsz (by rw [← hsz]; exact hn1) hval (items.size - 0) 0 _ (by omega) (Nat.zero_le _)
          ⟨⟨_, Heap.get?_push_size _ rfl, rfl, rfl⟩, (hl1.push _)⟩ ?hS0 ?hR
        case hS0 =>
          have hget : ((s.heap.push { cls := .type "set", dict := none, data := .set #[] 0 (.fresh 0 0 (!w.params.followText "set-order")) }).push { cls := .type "list_iterator", data := .fields #[.ref l, .int 0 0] }).get? s.heap.objs.size
              = some { cls := .type "set", dict := none, data := .set #[] 0 (.fresh 0 0 (!w.params.followText "set-order")) } := Heap.get?_push_of_some _ hS
          exact ⟨0, Nat.le_refl _, setRS_fresh hget⟩
        case hR =>
          intro s' hm hS'
          obtain ⟨m, hm1, hS'⟩ := hS'
          obtain ⟨h', g', d', tk', os'⟩ := s'
          have eg : g' = s.gens := hm.gens
          have ed : d' = s.drawn := hm.drawn
          have eo : os' = s.os := hm.os
          subst eg; subst ed; subst eo
          show wpAny _ _ _ _ _ _
          refine wpAny_pure ?_
          show wpAny _ _ (ret Value.none) _ _ _
          rw [← hsz, List.take_length] at hS'
          refine wpAny_pure ⟨rfl, h', tk', m, rfl, by omega, hS', fun b o hb e => ?_⟩
          have hb1 : b ≠ s.heap.objs.size := Nat.ne_of_lt hb
          have hb2 : b ≠ (s.heap.push { cls := .type "set", dict := none, data := .set #[] 0 (.fresh 0 0 (!w.params.followText "set-order")) }).objs.size := by
            rw [Heap.size_push]; exact Nat.ne_of_lt (Nat.lt_succ_of_lt hb)
          exact hm.heap b o (by simp only [List.mem_cons, List.mem_singleton, List.not_mem_nil, or_false, not_or]; exact ⟨hb1, hb2⟩) (Heap.get?_push_of_some _ (Heap.get?_push_of_some _ e))

      · cases r₂ with
        | error e => exact hr₂
        | ok fl₂ =>
          cases fl₂ with
          | ret r =>
            obtain ⟨rfl, h', tk, m, rfl, hm1, hS', hk'⟩ := hr₂
            repeat (any_goals (first | assumption | wp_step))
            exact h _ _ _ hm1 hS' hk'
          | _ => exact hr₂.elim
    | _ => exact hr.elim
theorem strs_of : ∀ (l : List Value), (∀ v ∈ l, ∃ k tk, v = Value.str k tk) → StrsAre l (l.map fun v => match v with | .str k _ => k | _ => Str.empty)
  | [], _ => .nil
  | v :: l, h => by
    obtain ⟨k, tk, rfl⟩ := h v List.mem_cons_self
    exact .cons k tk (strs_of l fun u hu => h u (List.mem_cons_of_mem _ hu))
theorem sorted_setS {a : Addr} {S : Str → Bool} {n : Nat} {Q : Value → Shared → Prop} (R : SetRS prog w s.heap a S n) (hh : A.handled = none) (h64 : n < 64)
    (hQ : ∀ s' p (out : Array Value) (c : Nat) (ns : List Str), (∀ b o, s.heap.get? b = some o → s'.heap.get? b = some o) → s'.gens = s.gens → s'.os = s.os → s.heap.objs.size ≤ p →
      s'.heap.get? p = some (seqObj "list" out c) → StrsAre out.toList ns → sortedS ns = true → ns.Nodup → (∀ k, k ∈ ns ↔ S k = true) → ns.length = n → Q (.ref p) s') :
    wpAny (model prog w) A (call (.builtin "sorted") [.ref a]) Q E s := by
  obtain ⟨o, es, ep, t, ho, hex, hd, g, nd, hm, hb, hf, hn, hr, hl⟩ := R
  refine Calls.call_function_entry kind_sorted plain_sorted entry_sorted (args_sorted1 _) ?_
  unfold Builtin.«sorted»
  refine wpAny_bind (m := checkCount "sorted" 1 1 _) (wpAny_pure ?_)
  refine wpAny_bind (collect_set (A := A.in1) hh ⟨o, ho, hex.1, hd⟩ hf hb hr hl fun s1 vs k1 hz g1 o1 pm => ?_)
  have hvl : vs.length = n := by rw [pm.length_eq, List.length_map, Array.length_toList]; exact hn
  have hI : StrsAre vs (vs.map fun v => match v with | .str k _ => k | _ => Str.empty) := strs_of vs fun v hv => by
    obtain ⟨e, he, q⟩ := List.mem_map.mp (pm.mem_iff.mp hv)
    obtain ⟨k, tk, h1, _⟩ := g e he
    exact ⟨k, tk, by rw [← q]; exact h1⟩
  have pk : (vs.map fun v => match v with | .str k _ => k | _ => Str.empty).Perm (es.toList.map keyOfS) := by
    have q := pm.map (fun v : Value => match v with | .str k _ => k | _ => Str.empty)
    rw [List.map_map] at q
    exact q
  generalize (vs.map fun v => match v with | .str k _ => k | _ => Str.empty) = ks at hI pk
  refine wpAny_bind (wpAny_newList ?_ (by rw [hvl, sizeLine_eq]; omega))
  have hoL : (s1.heap.push (seqObj "list" vs.toArray 0)).get? s1.heap.objs.size = some (seqObj "list" vs.toArray 0) := Heap.get?_push_size _ rfl
  refine wpAny_bind (wpAny_holding (wpAny_call_entry slot_list_sort ⟨_, hoL, rfl⟩ entry_list_sort
    (list_sort_treeK strKind_oneLt (s := { s1 with heap := s1.heap.push (seqObj "list" vs.toArray 0) }) hoL hI.keysOf (fun v₁ v₂ rest e => keyKind_strs (by rw [← e]; exact hI)) (by rw [hvl]; exact h64) fun st' hp hs => ⟨_, rfl, ?_⟩) (args_list_sort _)))
  obtain ⟨ys, q1, q2, q3⟩ := sorted_out_str hI hp hs
  obtain ⟨c, hc⟩ := sortedHeap_at (vs := vs) (out := (arrOf st').map (·.2)) hoL
  have pn : ys.Perm (es.toList.map keyOfS) := q2.trans pk
  refine wpAny_pure ⟨_, rfl, hQ _ s1.heap.objs.size ((arrOf st').map (·.2)) c ys (fun b u e => ?_) g1 o1 hz hc q1 q3 (pn.nodup_iff.mpr nd) (fun k => by rw [pn.mem_iff, ← hm k]) ?_⟩
  · have q := k1 b u e
    have hlt := Heap.lt_size q
    show (sortedHeap (s1.heap.push (seqObj "list" vs.toArray 0)) s1.heap.objs.size vs _).get? b = some u
    rw [sortedHeap_old (Nat.ne_of_lt hlt) (by rw [size_push']; exact Nat.lt_succ_of_lt hlt)]
    exact Heap.get?_push_of_some _ q
  · rw [pn.length_eq, List.length_map, Array.length_toList]; exact hn
end
end SS
namespace L2
open PySem PySem.Spec PyProof.Rows
/-- the set of texts at a -/
def SetSO (P : Program) (w : World) (a : Addr) (S : Str → Bool) (n : Nat) : HO := .ext fun h => SS.SetRS P w h a S n
section
variable {X : Cx}
theorem setSO_new {w : World} {P P' : Program} {H : Hp} {h : Heap} {a : Addr} {S : Str → Bool} {n : Nat} (R : SS.SetRS P w h a S n) : ObjOk P' w H h a (SetSO P w a S n) := by
  have ⟨o, _, _, _, ho, _⟩ := R
  exact ⟨R, ⟨o, ho⟩, fun h1 h2 p k => SS.SetRS.at p k⟩
theorem setSO_get {pins : List (Addr × Obj)} {σ : St} {H : Hp} {s : Shared} {a : Addr} {S : Str → Bool} {n : Nat} (I : Inv X pins σ H s) (ha : H a = some (SetSO X.prog X.w a S n)) : SS.SetRS X.prog X.w s.heap a S n := (I.hok a _ ha).1
def rSetSS (X : Cx) : List V → Hp → VK → Prop := fun xs H Q => ∃ (l : Addr) (ts : List Str), xs = [.ref l] ∧ SqL X.K H l (ts.map V.str) ∧ ts.length < 64 ∧
  ∀ p m, m ≤ ts.length → H p = none → Q (.ref p) (upd H p (SetSO X.prog X.w p (fun k => ts.any (· == k)) m))
theorem cr_setSS (hc : X.calm = true) : CallR X (.type "set") (rSetSS X) := by
  intro pins s σ H xs us Q I r h
  obtain ⟨l, ts, rfl, hq, h64, q⟩ := h
  obtain ⟨its, rv, pl, hz⟩ := I.list hq
  rw [Vals.ref1 r]
  refine SS.call_set_strs (I.ok.hd hc) pl.isList (by simpa using strsAre_of rv) h64 fun h' tk m hm1 hS hk => ?_
  have k : ∀ b o, s.heap.get? b = some o → h'.get? b = some o := fun b o e => hk b o (Heap.lt_size e) e
  exact ⟨.ref _, upd H s.heap.objs.size _, I.laid (t' := tk) k (Nat.le_refl _) (setSO_new hS), rfl, q _ m hm1 (I.hok.fresh (Nat.le_refl _))⟩
def rSortedSS (X : Cx) : List V → Hp → VK → Prop := fun vs H Q => ∃ (a : Addr) (S : Str → Bool) (n : Nat), vs = [V.ref a] ∧ H a = some (SetSO X.prog X.w a S n) ∧ n < 64 ∧
  ∀ (ns : List Str) (p : Addr), sortedS ns = true → ns.Nodup → (∀ k : Str, k ∈ ns ↔ S k = true) → ns.length = n → H p = none → Q (.ref p) (upd H p (.lst (ns.map V.str)))
theorem cr_sortedSS (hc : X.calm = true) : CallR X (.builtin "sorted") (rSortedSS X) := by
  intro pins s σ H vs us Q I r h
  obtain ⟨a, S, n, rfl, ha, h64, q⟩ := h
  have R := setSO_get I ha
  rw [Vals.ref1 r]
  refine SS.sorted_setS R (I.ok.hd hc) h64 fun s' p out c ns k g o hp hg hi hs hnd hm hl => ?_
  have hlen : (ns.map V.str).length ≤ sizeLine := by rw [List.length_map, hl, sizeLine_eq]; omega
  have hn : H p = none := I.hok.fresh hp
  have J : Inv X pins σ (upd H p (.lst (ns.map V.str))) { s with heap := s'.heap, gens := s'.gens, drawn := s'.drawn, toks := s'.toks } :=
    I.call (ch := []) (Un.laid k hp hn) (I.hok.laid k hp ⟨hlen, out.toList, c, vals_of_strs hi, hg⟩) (by rw [g]; exact I.bare) (fun _ z => nomatch z)
  have e : s' = { s with heap := s'.heap, gens := s'.gens, drawn := s'.drawn, toks := s'.toks } := by
    cases s'
    cases s
    cases o
    rfl
  rw [e]
  exact ⟨.ref p, _, J, rfl, q ns p hs hnd hm hl hn⟩
end
end L2
namespace SS
open PySem PySem.Spec PyProof.Rows
section
variable {prog : Program} {w : World} {A : Around} {E : Value → Shared → Prop} {s : Shared}
open L2
theorem call_set_strsT {l : Addr} {items : Array Value} {xs : List Str} {Q : Value → Shared → Prop}
    (hh : A.handled = none) (hl : s.heap.IsTuple l items) (hi : PyProof.Rows.StrsAre items.toList xs) (hn1 : xs.length < 64)
    (h : ∀ (h' : Heap) (tk m : Nat), m ≤ xs.length → SetRS prog w h' s.heap.objs.size (fun k' => xs.any (· == k')) m →
      (∀ b o, b < s.heap.objs.size → s.heap.get? b = some o → h'.get? b = some o) → Q (.ref s.heap.objs.size) { s with heap := h', toks := tk }) :
    wpAny (model prog w) A (call (.type "set") [.ref l]) Q E s := by
  obtain ⟨c, tl, hmro⟩ := PySem.F.called_set.mro
  have hmade := PySem.F.called_set.made
  have hsub := PySem.F.called_set.sub
  have hsz : xs.length = items.size := by rw [← StrsAre.len_eq hi, Array.length_toList]
  refine wpAny_call (codeAny_of_tree ?_)
  show wpAny _ _ (callAny (.type "set") _) _ _ _
  refine wpAny_pure ⟨Code.quiet_builtin _ (by decide +kernel), codeAny_builtin PySem.F.entry_type_call ?_⟩
  rw [Around.under_plain (weight_type_call_type "set" [.ref l] []) rfl]
  have h1 := PySem.F.called_set.notType
  have h2 := PySem.F.called_set.canCreate
  have hct := PySem.F.typeCall_set_1 (.ref l)
  repeat (any_goals (first | assumption | wp_step))

  refine codeAny_mono (code_set_led1 (.ref l) (E := E) (Q₁ := fun obj s₁ => obj = .ref s.heap.objs.size ∧ s₁ = { s with heap := s.heap.push { cls := .type "set", dict := none, data := .set #[] 0 (.fresh 0 0 (!w.params.followText "set-order")) } }) ⟨rfl, rfl⟩) fun r s₁ hr => ?_
  cases r with
  | error e => exact hr
  | ok fl =>
    cases fl with
    | ret obj =>
      obtain ⟨rfl, rfl⟩ := hr
      have hS : (s.heap.push { cls := .type "set", dict := none, data := .set #[] 0 (.fresh 0 0 (!w.params.followText "set-order")) }).get? s.heap.objs.size = some { cls := .type "set", dict := none, data := .set #[] 0 (.fresh 0 0 (!w.params.followText "set-order")) } := Heap.get?_push_size _ rfl
      have hT : Shared.TypeIs { s with heap := s.heap.push { cls := .type "set", dict := none, data := .set #[] 0 (.fresh 0 0 (!w.params.followText "set-order")) } } (.ref s.heap.objs.size) "set" := ⟨_, hS, rfl⟩
      have hli := PySem.F.called_set.init.lookup
      have hbi := PySem.F.called_set.init.bind (.ref s.heap.objs.size)
      repeat (any_goals (first | assumption | wp_step))

      refine codeAny_mono (codeAny_call_builtin (R := wants (fun r s₂ => r = .none ∧ ∃ h' tk m, s₂ = { s with heap := h', toks := tk } ∧ m ≤ xs.length ∧
          SetRS prog w h' s.heap.objs.size (fun k' => xs.any (· == k')) m ∧
          (∀ b o, b < s.heap.objs.size → s.heap.get? b = some o → h'.get? b = some o)) E) PySem.F.called_set.init.plain PySem.F.entry_set_init (check_set_init_1 hT ?_)) fun r₂ s₂ hr₂ => ?_
      · obtain ⟨ol, hol, hcl, nl, hdl⟩ := hl
        obtain ⟨ocls, odict, odata, oslots⟩ := ol
        simp only at hcl hdl
        subst hcl; subst hdl
        have hol' : (s.heap.push { cls := .type "set", dict := none, data := .set #[] 0 (.fresh 0 0 (!w.params.followText "set-order")) }).get? l = some { cls := .type "tuple", dict := odict, data := .seq items nl, slots := oslots } := Heap.get?_push_of_some _ hol
        have hsls := PySem.F.sub_tuple_set
        have hslf := PySem.F.sub_tuple_frozenset
        have hne : (Value.type "tuple" == Value.type "dict") = false := by decide
        have hl1 : (s.heap.push { cls := .type "set", dict := none, data := .set #[] 0 (.fresh 0 0 (!w.params.followText "set-order")) }).IsTuple l items := ⟨_, hol', rfl, nl, rfl⟩
        unfold Builtin.«set.__init__» noKeywords Builtin.Frozenset.updateFrom
        generalize hPI : pyIter = PI
        wp_walk
        subst hPI

        refine wpAny_pyIter_tuple hl1 ?_
        refine wpAny_bind (wpAny_runValue ?_)
        have hlS : l < s.heap.objs.size := Heap.lt_size hol
        have hh3 : A.in1.in1.in1.handled = none := by simp [hh]
        have hneI : l ≠ (s.heap.push { cls := .type "set", dict := none, data := .set #[] 0 (.fresh 0 0 (!w.params.followText "set-order")) }).objs.size := by
          rw [Heap.size_push]; exact Nat.ne_of_lt (Nat.lt_succ_of_lt hlS)
        have hSf : s.heap.objs.size ∉ [(s.heap.push { cls := .type "set", dict := none, data := .set #[] 0 (.fresh 0 0 (!w.params.followText "set-order")) }).objs.size, l] := by
          rw [Heap.size_push]; simp only [List.mem_cons, List.mem_singleton, List.not_mem_nil, or_false, not_or]
          exact ⟨Nat.ne_of_lt (Nat.lt_succ_self _), Nat.ne_of_gt hlS⟩
        have hval : ∀ (i : Nat) (v : Value), items[i]? = some v → ∃ t, v = .str (xs.getD i Str.empty) t := fun i v hv => strs_at hi i v (by rw [Array.getElem?_toList]; exact hv)
        refine loopStrs ((Walks.tuple hh3 _ l hneI items).toS) s.heap.objs.size
          hSf xs hsz (by rw [← hsz]; exact hn1) hval (items.size - 0) 0 _ (by omega) (Nat.zero_le _)
          ⟨⟨_, Heap.get?_push_size _ rfl, rfl, rfl⟩, (hl1.push _)⟩ ?hS0 ?hR
        case hS0 =>
          have hget : ((s.heap.push { cls := .type "set", dict := none, data := .set #[] 0 (.fresh 0 0 (!w.params.followText "set-order")) }).push { cls := .type "tuple_iterator", data := .fields #[.ref l, .int 0 0] }).get? s.heap.objs.size
              = some { cls := .type "set", dict := none, data := .set #[] 0 (.fresh 0 0 (!w.params.followText "set-order")) } := Heap.get?_push_of_some _ hS
          exact ⟨0, Nat.le_refl _, setRS_fresh hget⟩
        case hR =>
          intro s' hm hS'
          obtain ⟨m, hm1, hS'⟩ := hS'
          obtain ⟨h', g', d', tk', os'⟩ := s'
          have eg : g' = s.gens := hm.gens
          have ed : d' = s.drawn := hm.drawn
          have eo : os' = s.os := hm.os
          subst eg; subst ed; subst eo
          show wpAny _ _ _ _ _ _
          refine wpAny_pure ?_
          show wpAny _ _ (ret Value.none) _ _ _
          rw [← hsz, List.take_length] at hS'
          refine wpAny_pure ⟨rfl, h', tk', m, rfl, by omega, hS', fun b o hb e => ?_⟩
          have hb1 : b ≠ s.heap.objs.size := Nat.ne_of_lt hb
          have hb2 : b ≠ (s.heap.push { cls := .type "set", dict := none, data := .set #[] 0 (.fresh 0 0 (!w.params.followText "set-order")) }).objs.size := by
            rw [Heap.size_push]; exact Nat.ne_of_lt (Nat.lt_succ_of_lt hb)
          exact hm.heap b o (by simp only [List.mem_cons, List.mem_singleton, List.not_mem_nil, or_false, not_or]; exact ⟨hb1, hb2⟩) (Heap.get?_push_of_some _ (Heap.get?_push_of_some _ e))

      · cases r₂ with
        | error e => exact hr₂
        | ok fl₂ =>
          cases fl₂ with
          | ret r =>
            obtain ⟨rfl, h', tk, m, rfl, hm1, hS', hk'⟩ := hr₂
            repeat (any_goals (first | assumption | wp_step))
            exact h _ _ _ hm1 hS' hk'
          | _ => exact hr₂.elim
    | _ => exact hr.elim
theorem sorted_listS {l : Addr} {vs : List Value} {ks : List Str} {Q : Value → Shared → Prop} (hl : s.heap.IsList l vs.toArray) (hI : StrsAre vs ks) (h64 : ks.length < 64)
    (hQ : ∀ s' p (out : Array Value) (c : Nat) (ns : List Str), (∀ b o, s.heap.get? b = some o → s'.heap.get? b = some o) → s'.gens = s.gens → s'.os = s.os → s.heap.objs.size ≤ p →
      s'.heap.get? p = some (seqObj "list" out c) → StrsAre out.toList ns → sortedS ns = true → ns.Perm ks → Q (.ref p) s') :
    wpAny (model prog w) A (call (.builtin "sorted") [.ref l]) Q E s := by
  have hvl : vs.length = ks.length := StrsAre.len_eq hI
  refine PySem.W.sorted_of_sort hl (by rw [hvl, sizeLine_eq]; omega) (args_sorted1 _) (fun _ => args_list_sort _) fun E' => ?_
  have hoL := PySem.W.copyHeap_at s.heap vs
  refine list_sort_treeK strKind_oneLt (s := { s with heap := PySem.W.copyHeap s.heap vs }) hoL hI.keysOf (fun v₁ v₂ rest e => keyKind_strs (by rw [← e]; exact hI)) (by rw [hvl]; exact h64) fun st' hp hs => ⟨rfl, ?_⟩
  obtain ⟨ys, q1, q2, q3⟩ := sorted_out_str hI hp hs
  obtain ⟨c, hc⟩ := sortedHeap_at (vs := vs) (out := (arrOf st').map (·.2)) hoL
  refine hQ _ (s.heap.objs.size + 1) ((arrOf st').map (·.2)) c ys (fun b u e => ?_) rfl rfl (Nat.le_succ _) hc q1 q3 q2
  exact sortedAll_old e
end
end SS
namespace L2
open PySem PySem.Spec PyProof.Rows
section
variable {X : Cx}
def rSetST (X : Cx) : List V → Hp → VK → Prop := fun xs H Q => ∃ (l : Addr) (ts : List Str), xs = [.ref l] ∧ (SqL X.K H l (ts.map V.str) ∨ SqT X.K H l (ts.map V.str)) ∧ ts.length < 64 ∧
  ∀ p m, m ≤ ts.length → H p = none → Q (.ref p) (upd H p (SetSO X.prog X.w p (fun k => ts.any (· == k)) m))
theorem cr_setST (hc : X.calm = true) : CallR X (.type "set") (rSetST X) := by
  intro pins s σ H xs us Q I r h
  obtain ⟨l, ts, rfl, hq, h64, q⟩ := h
  rcases hq with hq | hq
  · exact cr_setSS hc pins s σ H _ us Q I r ⟨l, ts, rfl, hq, h64, q⟩
  · obtain ⟨its, rv, pl, hz⟩ := I.tuple hq
    rw [Vals.ref1 r]
    refine SS.call_set_strsT (I.ok.hd hc) (show s.heap.IsTuple l its.toArray from pl) (by simpa using strsAre_of rv) h64 fun h' tk m hm1 hS hk => ?_
    have k : ∀ b o, s.heap.get? b = some o → h'.get? b = some o := fun b o e => hk b o (Heap.lt_size e) e
    exact ⟨.ref s.heap.objs.size, upd H s.heap.objs.size _, I.laid (t' := tk) k (Nat.le_refl _) (setSO_new hS), rfl, q _ m hm1 (I.hok.fresh (Nat.le_refl _))⟩
def rSortedLS (X : Cx) : List V → Hp → VK → Prop := fun vs H Q => ∃ (l : Addr) (ts : List Str), vs = [V.ref l] ∧ SqL X.K H l (ts.map V.str) ∧ ts.length < 64 ∧
  ∀ (ns : List Str) (p : Addr), sortedS ns = true → ns.Perm ts → H p = none → Q (.ref p) (upd H p (.lst (ns.map V.str)))
theorem cr_sortedLS : CallR X (.builtin "sorted") (rSortedLS X) := by
  intro pins s σ H vs us Q I r h
  obtain ⟨l, ts, rfl, hq, h64, q⟩ := h
  obtain ⟨its, rv, pl, hz⟩ := I.list hq
  rw [Vals.ref1 r]
  refine SS.sorted_listS pl.isList (by simpa using strsAre_of rv) h64 fun s' p out c ns k g o hp hg hi hs hm => ?_
  have hl : ns.length = ts.length := hm.length_eq
  have hlen : (ns.map V.str).length ≤ sizeLine := by rw [List.length_map, hl, sizeLine_eq]; omega
  have hn : H p = none := I.hok.fresh hp
  have J : Inv X pins σ (upd H p (.lst (ns.map V.str))) { s with heap := s'.heap, gens := s'.gens, drawn := s'.drawn, toks := s'.toks } :=
    I.call (ch := []) (Un.laid k hp hn) (I.hok.laid k hp ⟨hlen, out.toList, c, vals_of_strs hi, hg⟩) (by rw [g]; exact I.bare) (fun _ z => nomatch z)
  have e : s' = { s with heap := s'.heap, gens := s'.gens, drawn := s'.drawn, toks := s'.toks } := by
    cases s'
    cases s
    cases o
    rfl
  rw [e]
  exact ⟨.ref p, _, J, rfl, q ns p hs hm hn⟩
end
end L2

/-! VSI: enumerate of a tuple; sets of ints, sorted. -/
namespace EnT
open PySem PySem.Spec PyProof.Rows L2
theorem draws_tuple {prog : Program} {w : World} {A : Around} (hh : A.handled = none) (it l : Addr) (hne : l ≠ it) (items : Array Value) :
    Draws prog w A it [it, l] items.size (fun i v => items[i]? = some v) (fun i h => h.IsTupleIter it l i ∧ h.IsTuple l items) where
  live := fun _ _ st => let ⟨o, ho, _⟩ := st.1; ⟨o, ho⟩
  frame := fun _ _ _ st hk => ⟨st.1.at fun o e => hk it (by simp) o e, let ⟨o, ho, r⟩ := st.2; ⟨o, hk l (by simp) o ho, r⟩⟩
  item := fun i s Q E hi st hQ => by
    refine RZ.nextOf_tuple_item st.1 st.2 (x := items[i]) (by simp [hi]) fun h' hit' hs' => ?_
    exact hQ _ h' s.toks (by simp [hi]) ⟨hit', st.2.extBut hs'.extBut hne⟩ hs'
  done := fun s Q E st hE => RZ.nextOf_tuple_end hh st.1 st.2 (by simp) hE
theorem meets_enumerate_newT (l : Addr) (items : Array Value) (n : Nat) (dct : Option Addr) (sl : Array (Option Value)) :
    Meets (Builtin.«enumerate.__new__» ⟨[.type "enumerate", .ref l], []⟩) (fun _ R s => s.heap.get? l = some { cls := .type "tuple", dict := dct, data := .seq items n, slots := sl } ∧
      R (.ok (.ret (.ref (s.heap.push { cls := .type "tuple_iterator", data := .fields #[.ref l, .int 0 0] }).objs.size)))
        { s with heap := (s.heap.push { cls := .type "tuple_iterator", data := .fields #[.ref l, .int 0 0] }).push { cls := .type "enumerate", data := .fields #[.none, .bool false, .ref s.heap.objs.size, rawInt 0, .none, .none] } }) :=
  .of_wp fun prog w A R s h => by
    obtain ⟨hp, g, d, tk, os⟩ := s; obtain ⟨hl, h⟩ := h
    have hsub := sub_enumerate
    have hL : Heap.IsTuple (Shared.heap ⟨hp, g, d, tk, os⟩) l items := ⟨_, hl, rfl, n, rfl⟩
    wp_walk using AutoSeq1.wpAny_loadPart' hl
    refine wpAny_stack_any fun st => wpAny_pure ?_
    split
    · rename_i c _ _ _ _ _
      cases (c == Value.type "enumerate")
      · wp_walk using AutoSeq1.wpAny_loadPart' hl, wpAny_pyIter_tuple hL
        exact ⟨_, rfl, h⟩
      · wp_walk using AutoSeq1.wpAny_loadPart' hl, wpAny_pyIter_tuple hL
        exact ⟨_, rfl, h⟩
    · wp_walk using AutoSeq1.wpAny_loadPart' hl, wpAny_pyIter_tuple hL
      exact ⟨_, rfl, h⟩
section
variable {prog : Program} {w : World} {A : Around} {E : Value → Shared → Prop} {s : Shared}
theorem call_enumerate_tuple {l : Addr} {items : Array Value} {Q : Value → Shared → Prop} (hL : s.heap.IsTuple l items)
    (h : ∀ h', IsEnum h' (s.heap.objs.size + 1) s.heap.objs.size 0 .none → h'.IsTupleIter s.heap.objs.size l 0 → h'.objs.size = s.heap.objs.size + 2 →
      (∀ b o, s.heap.get? b = some o → h'.get? b = some o) → Q (.ref (s.heap.objs.size + 1)) { s with heap := h' }) :
    wpAny (model prog w) A (call (.type "enumerate") [.ref l]) Q E s := by
  obtain ⟨⟨c, dct, dt, sl⟩, hl, hc, n, hd⟩ := hL
  replace hc : c = .type "tuple" := hc
  replace hd : dt = .seq items n := hd
  subst hc hd
  refine callType_new PySem.F.called_enumerate (by decide) (PySem.F.typeCall_enumerate_1 _) (PySem.F.newCall_enumerate_1 _) (fun obj => PySem.F.args_object_init_2 obj _) PySem.F.entry_enumerate_new
    (meets_enumerate_newT l items n dct sl) ⟨hl, ?_⟩
  have hz : (s.heap.push { cls := .type "tuple_iterator", data := .fields #[.ref l, .int 0 0] }).objs.size = s.heap.objs.size + 1 := Heap.size_push ..
  show _ ∧ _
  rw [hz]
  have he : IsEnum ((s.heap.push { cls := .type "tuple_iterator", data := .fields #[.ref l, .int 0 0] }).push
      { cls := .type "enumerate", data := .fields #[.none, .bool false, .ref s.heap.objs.size, rawInt 0, .none, .none] }) (s.heap.objs.size + 1) s.heap.objs.size 0 .none := by
    have := Heap.get?_push_size (s.heap.push { cls := .type "tuple_iterator", data := .fields #[.ref l, .int 0 0] })
      (o := { cls := .type "enumerate", data := .fields #[.none, .bool false, .ref s.heap.objs.size, rawInt 0, .none, .none] }) rfl
    rw [hz] at this; exact this
  refine ⟨⟨_, he, rfl⟩, h _ he ⟨_, Heap.get?_push_of_some _ (Heap.get?_push_size _ rfl), rfl, rfl⟩ (by rw [Heap.size_push, hz]) fun b o x => Heap.get?_push_of_some _ (Heap.get?_push_of_some _ x)⟩
end
/-- the tuple at a, each item in a new pair -/
def IteT (K : PySem.W.Frag) (a : Addr) : It :=
  ⟨fun i H => ∃ (xs : List V) (x : V), SqT K H a xs ∧ xs[i]? = some x, fun i H v H' => ∃ T x, v = .ref T ∧ H T = none ∧ H' = upd H T (.tup [.int (i : Nat), x]) ∧ ∀ xs, SqT K H a xs → xs[i]? = some x, fun i H => ∃ xs : List V, SqT K H a xs ∧ xs.length ≤ i⟩
theorem turn_enumT {P : Program} {w : World} {K : PySem.W.Frag} {elts : List Expr} {kk : Nat} {tpos : Pos} (a e it : Addr) :
    Turn P w K (.Tuple elts kk tpos) (IteT K a) [e, it] e (fun i h => (∃ old, IsEnum h e it ((i : Nat) : Int) old) ∧ h.IsTupleIter it a i ∧ e ≠ it) where
  mem := by simp
  obj := fun i h st b hb => by
    obtain ⟨⟨old, he⟩, ⟨o, ho, hc, hd⟩, _⟩ := st
    have e' : b = e ∨ b = it := by simpa using hb
    rcases e' with z | z
    · rw [z]; exact ⟨_, he, fun v q => nomatch q⟩
    · rw [z]; exact ⟨o, ho, fun v q => by rw [hd] at q; cases q⟩
  keep := fun i h h' st k => let ⟨⟨old, he⟩, hi, hne⟩ := st; ⟨⟨old, k e (by simp) _ he⟩, hi.at fun o q => k it (by simp) o q, hne⟩
  item := by
    intro X hP hw hK hc i pins s σ H E I hf st hg
    subst hP hw hK
    obtain ⟨⟨old, he⟩, hit, hne⟩ := st
    obtain ⟨xs, x, hq, hx⟩ := hg
    obtain ⟨its, rv, p, hz⟩ := I.tuple hq
    have p : s.heap.IsTuple a its.toArray := p
    obtain ⟨u, hu, ru⟩ := rv.get hx
    have hel : e < s.heap.objs.size := Heap.lt_size he
    have hil : it < s.heap.objs.size := by obtain ⟨_, q, _⟩ := hit; exact Heap.lt_size q
    have hai : a ≠ it := fun z => by
      obtain ⟨o1, e1, c1, _⟩ := p
      obtain ⟨o2, e2, c2, _⟩ := id hit
      rw [z, e2] at e1
      cases e1
      rw [c1] at c2
      exact absurd c2 (by decide)
    have hea : e ≠ a := fun z => by
      obtain ⟨o1, e1, c1, _⟩ := p
      have he' : s.heap.get? e = some _ := he
      rw [z, e1] at he'
      have he' := Option.some.inj he'
      rw [he'] at c1
      exact absurd (show Value.type "enumerate" = Value.type "tuple" from c1) (by decide)
    have hlt : i < its.toArray.size := by
      rw [List.size_toArray]
      exact (List.getElem?_eq_some_iff.mp hu).1
    refine wpAny_pyNext_enum_itemD (draws_tuple (A := X.A.in1) (by simp [I.ok.hd hc]) it a hai its.toArray) he ⟨hit, p⟩ hlt hne (by simp [hne, hea]) fun y h' tk hy ho hst' hT hsz hk => ?_
    have ey : y = u := by
      have hy : its.toArray[i]? = some y := hy
      have hu' : its.toArray[i]? = some u := by simpa using hu
      rw [hu'] at hy
      exact (Option.some.inj hy).symm
    subst ey
    obtain ⟨hit', _⟩ := hst'
    refine ⟨_, rfl, wpAny_letOwnedTupleGo_enum (s := { s with heap := h', toks := tk + 1 }) ho fun h'' he' sb => ?_⟩
    have hT2 : h''.get? s.heap.objs.size = some { cls := .type "tuple", data := .seq #[.int i tk, y] } := (sb.2 _ (Nat.ne_of_gt hel)).trans hT
    have new : ObjOk X.prog X.w (upd H s.heap.objs.size (.tup [.int (i : Nat), x])) h'' s.heap.objs.size (.tup [.int (i : Nat), x]) :=
      ⟨by show 2 ≤ sizeLine; decide, [.int i tk, y], .cons ⟨_, rfl⟩ (.cons ru .nil), ⟨_, hT2, rfl, _, rfl⟩⟩
    have I1 : Inv X pins σ (upd H s.heap.objs.size (.tup [.int (i : Nat), x])) { s with heap := h'', toks := tk + 1 } :=
      I.turnedNew (ch := [e, it]) (fun b ob hb q => (sb.2 b (fun z => hb (by simp [z]))).trans (hk b ob (fun z => hb (by simp [z])) (fun z => hb (by simp [z])) q)) hf (Nat.le_refl _) new
    refine ⟨.ref s.heap.objs.size, _, I1, rfl, ⟨_, x, rfl, I.hok.fresh (Nat.le_refl _), rfl, fun ys hy => by rw [I.tuple_inj hy hq]; exact hx⟩, ⟨⟨y, ?_⟩, hit'.at fun o q => (sb.2 it (Ne.symm hne)).trans q, hne⟩, fun b hb => ?_⟩
    · have e1 : ((i + 1 : Nat) : Int) = (i : Int) + 1 := by omega
      rw [e1]; exact he'
    · have hb' : b < s.heap.objs.size := by
        have e' : b = e ∨ b = it := by simpa using hb
        rcases e' with z | z
        · rw [z]; exact hel
        · rw [z]; exact hil
      rw [upd_ne (Nat.ne_of_lt hb')]
      exact (hf b hb).1
  done := by
    intro X hP hw hK hc i pins s σ H E I hf st hg
    subst hP hw hK
    obtain ⟨⟨old, he⟩, hit, hne⟩ := st
    obtain ⟨xs, hq, hx⟩ := hg
    obtain ⟨its, rv, p, hz⟩ := I.tuple hq
    have p : s.heap.IsTuple a its.toArray := p
    obtain ⟨f0, f1, f2, f3, f4, f5⟩ := hf it (by simp)
    have hl := rv.length
    have hai : a ≠ it := fun z => by
      obtain ⟨o1, e1, c1, _⟩ := p
      obtain ⟨o2, e2, c2, _⟩ := id hit
      rw [z, e2] at e1
      cases e1
      rw [c1] at c2
      exact absurd c2 (by decide)
    unfold pyNext
    have hTy : s.TypeIs (.ref e) "enumerate" := ⟨_, he, rfl⟩
    refine wpAny_bind (wpAny_attempt (wpAny_callSpecial?_slot (name := Str.ofString "__next__") hTy PySem.F.slot_enumerate_next
      (wpAny_call_entry PySem.F.slot_enumerate_next hTy PySem.F.entry_enumerate_next ?_ (PySem.F.args_enumerate_next_1 _))))
    show wpAny _ _ (field (.ref e) 2 >>= _) _ _ _
    refine wpAny_bind (wpAny_field he rfl (x := .ref it) rfl ?_)
    refine wpAny_bind (RZ.nextOf_tuple_end (by simp [I.ok.hd hc]) hit p (by simp; omega) fun h' x he' hx' => ?_)
    obtain ⟨o, ho, hc'⟩ := hx'
    refine wpAny_bind (wpAny_isInstance (T := "StopIteration") (b := true) ⟨o, ho, hc'⟩ isSubtype_stop ?_)
    exact wpAny_pure ⟨rfl, I.turned (t' := s.toks) (fun b o hb q => he' b o hb q) f0 f1 f3 f4 f5⟩
  self := fun A i s Q E st h => let ⟨⟨_, he⟩, _⟩ := st; wpAny_pyIter_enum he h
/-- enumerate of a list or a tuple -/
def iEnumA (K : PySem.W.Frag) (ta : TA) : TI := fun σ H R => ta σ H fun vs H1 => ∃ a xs, vs = [.ref a] ∧ ((SqL K H1 a xs ∧ R (Ite K a) H1) ∨ (SqT K H1 a xs ∧ R (IteT K a) H1))
theorem pi_enumA {X : Cx} {e : Expr} {ta : TA} {p pos tpos : Pos} {elts : List Expr} {kk : Nat} (hg : Gl X "enumerate") (hm : X.mg "enumerate" = none) (ha : PA X [e] ta) (hs : starEach [e] X.env = [(false, eval e X.env)] := by rfl) :
    PI X (.Tuple elts kk tpos) (.Call (.Name "enumerate" p) [e] [] pos) (iEnumA X.K ta) := by
  refine ⟨fun pins s σ H R I h => ?_⟩
  refine Call_ (ld_blt I hg hm boot_enumerate (PyProof.Rows.callWith_type1 (thn (ha.run pos pins s σ H _ I h) fun us s1 ⟨vs, H1, I1, r1, q1⟩ => ?_) hs rfl))
  obtain ⟨a, xs, ex, q⟩ := q1
  subst ex
  cases r1 with
  | cons r rr =>
    cases rr
    cases r
    have fp : ∀ b ∈ [s1.heap.objs.size + 1, s1.heap.objs.size], FpOk X pins H1 b := fun b hb => by
      have e' : b = s1.heap.objs.size + 1 ∨ b = s1.heap.objs.size := by simpa using hb
      have hle : s1.heap.objs.size ≤ b := by
        rcases e' with z | z
        · rw [z]; exact Nat.le_add_right _ _
        · rw [z]; exact Nat.le_refl _
      exact I1.fpOk hle (I1.hok.fresh hle)
    rcases q with ⟨hq, q⟩ | ⟨hq, q⟩
    · obtain ⟨its, rv, p', hz⟩ := I1.list hq
      refine call_enumerate_list p'.isList fun h' he hit hsz hk => wpAny_pyIter_enum he ?_
      have I2 : Inv X pins σ H1 { s1 with heap := h' } := I1.kept (t' := s1.toks) hk
      exact ⟨s1.heap.objs.size + 1, [s1.heap.objs.size + 1, s1.heap.objs.size], _, _, H1, rfl, I2, turn_enum a (s1.heap.objs.size + 1) s1.heap.objs.size, ⟨⟨.none, he⟩, hit, Nat.succ_ne_self _⟩, fp, q⟩
    · obtain ⟨its, rv, p', hz⟩ := I1.tuple hq
      refine call_enumerate_tuple (show s1.heap.IsTuple a its.toArray from p') fun h' he hit hsz hk => wpAny_pyIter_enum he ?_
      have I2 : Inv X pins σ H1 { s1 with heap := h' } := I1.kept (t' := s1.toks) hk
      exact ⟨s1.heap.objs.size + 1, [s1.heap.objs.size + 1, s1.heap.objs.size], _, _, H1, rfl, I2, turn_enumT a (s1.heap.objs.size + 1) s1.heap.objs.size, ⟨⟨.none, he⟩, hit, Nat.succ_ne_self _⟩, fp, q⟩
end EnT
namespace SI
open PySem PySem.Spec PyProof.Rows
open L2 (SetR SetR.at SetR.congr setR_add_hashed)
theorem setR_freshH {h : Heap} {w : World} {a : Addr} (ho : h.get? a = some { cls := .type "set", dict := none, data := .set #[] 0 (.fresh 0 0 (!w.params.followText "set-order")) }) : SetR w h a (fun _ => false) 0 :=
  ⟨_, #[], 0, _, ho, ⟨rfl, rfl, rfl⟩, rfl, (fun e he => by simp at he), (by simp), (fun k => by simp), (by decide), (by rfl), rfl, List.Pairwise.nil, by
    show _ ∨ (!w.params.followText "set-order") = true
    cases w.params.followText "set-order"
    · exact .inr rfl
    · exact .inl rfl⟩
section
variable {prog : Program} {w : World} {A : Around} {R : Result → Shared → Prop} {I : Addr} {fp wr : List Addr} {G : Array GenState → Array GenState → Prop} {n : Nat} {P : Nat → Value → Prop} {St : Nat → Shared → Prop}
theorem loopInts (W : WalksS prog w A.in1 I fp wr G n P St) (S : Addr) (hSf : S ∉ fp) (xs : List Int) (hsz : xs.length = n) (hn1 : n < 64)
    (hval : ∀ i v, P i v → ∃ t, v = .int (xs.getD i 0) t) :
    ∀ (k i : Nat) (s : Shared), n - i = k → i ≤ n → St i s →
      (∃ m, m ≤ i ∧ SetR w s.heap S (fun k' => (xs.take i).any (· == k')) m) →
      (∀ s', Moved (S :: wr) G s s' → (∃ m, m ≤ n ∧ SetR w s'.heap S (fun k' => (xs.take n).any (· == k')) m) → R (.ok (.ret .none)) s') →
      codeAny (model prog w) A (.builtin "set.update.loop" ⟨[.ref S, .ref I], []⟩) R s := by
  have hSw : S ∉ wr := fun h => hSf (W.sub _ h)
  have hsub : ∀ b ∈ wr, b ∈ S :: wr := fun b hb => List.mem_cons_of_mem _ hb
  intro k
  induction k with
  | zero =>
    intro i s hk hi hst ⟨m, hm1, hS⟩ hR
    have hin : i = n := by omega
    subst hin
    refine codeAny_builtin PyProof.Rows.F.entry_set_update_loop ?_
    rw [Around.under_plainId PyProof.Rows.F.plain_set_update_loop _]
    show wpAny _ A.in1 (pyNext (.ref I) >>= _) _ _ s
    refine wpAny_bind (W.done s _ _ hst fun s' hm => ?_)
    show wpAny _ A.in1 (ret Value.none) _ _ s'
    exact wpAny_pure (hR s' (hm.mono hsub) ⟨m, hm1, hS.at fun o e => hm.heap S o hSw e⟩)
  | succ k ih =>
    intro i s hk hi hst ⟨m, hm1, hS⟩ hR
    have hlt : i < n := by omega
    refine codeAny_builtin PyProof.Rows.F.entry_set_update_loop ?_
    rw [Around.under_plainId PyProof.Rows.F.plain_set_update_loop _]
    show wpAny _ A.in1 (pyNext (.ref I) >>= _) _ _ s
    refine wpAny_bind (W.item i s _ _ hlt hst fun v s' hP hst' hm => ?_)
    obtain ⟨t, rfl⟩ := hval i v hP
    have hS' : SetR w s'.heap S (fun k' => (xs.take i).any (· == k')) m := hS.at fun o e => hm.heap S o hSw e
    show wpAny _ A.in1 (holding [Value.int (xs.getD i 0) t] (setAdd S (.int (xs.getD i 0) t)) >>= _) _ _ s'
    refine wpAny_bind (wpAny_holding ?_)
    unfold setAdd
    refine wpAny_holding ?_
    refine wpAny_bind ((PySem.intKind prog w).pyHash (k := xs.getD i 0) (intKind_is _ _ _ _) ?_)
    refine setR_add_hashed (s := { s' with toks := s'.toks + 1 }) hS' (by unfold scanBound; omega) fun h' hsb hS2 => ?_
    have hxi : xs[i]? = some (xs.getD i 0) := by
      rw [List.getD_eq_getElem?_getD, List.getElem?_eq_getElem (by omega)]
      rfl
    have hSi : ∃ m, m ≤ i + 1 ∧ SetR w h' S (fun k' => (xs.take (i + 1)).any (· == k')) m := by
      refine ⟨_, ?_, hS2.congr (fun k' => ?_)⟩
      · split <;> omega
      · rw [List.take_add_one, hxi, List.any_append]
        show (_ || ((xs.getD i 0 == k') || false)) = _
        rw [Bool.or_false]
        congr 1
        by_cases e : k' = xs.getD i 0
        · rw [e]; simp
        · have hb : (xs.getD i 0 == k') = false := beq_eq_false_iff_ne.mpr fun z => e z.symm
          rw [hb, decide_eq_false e]
    refine wpAny_pure ⟨plainId_quiet PyProof.Rows.F.plain_set_update_loop _, ih (i + 1) _ (by omega) hlt (W.frame _ s' _ _ hst' (Nat.le_succ _) fun b hb o e => ?_) hSi fun s'' hm'' hS'' => ?_⟩
    · rw [hsb.2 b (fun h : b = S => hSf (by rw [← h]; exact hb))]; exact e
    · refine hR s'' (Moved.trans W.gtrans ((hm.mono hsub).then_heap (Nat.le_succ _) fun b o hb e => ?_) hm'') hS''
      rw [hsb.2 b (fun h : b = S => hb (by rw [h]; exact List.mem_cons_self))]; exact e
end

section
variable {prog : Program} {w : World} {A : Around} {E : Value → Shared → Prop} {s : Shared}
open L2
theorem call_set_ints {l : Addr} {items : Array Value} {xs : List Int} {Q : Value → Shared → Prop}
    (hh : A.handled = none) (hl : s.heap.IsList l items) (hi : PyProof.Rows.IntsAre items.toList xs) (hn1 : xs.length < 64)
    (h : ∀ (h' : Heap) (tk m : Nat), m ≤ xs.length → SetR w h' s.heap.objs.size (fun k' => xs.any (· == k')) m →
      (∀ b o, b < s.heap.objs.size → s.heap.get? b = some o → h'.get? b = some o) → Q (.ref s.heap.objs.size) { s with heap := h', toks := tk }) :
    wpAny (model prog w) A (call (.type "set") [.ref l]) Q E s := by
  obtain ⟨c, tl, hmro⟩ := PySem.F.called_set.mro
  have hmade := PySem.F.called_set.made
  have hsub := PySem.F.called_set.sub
  have hsz : xs.length = items.size := by rw [← IntsAre.length hi, Array.length_toList]
  refine wpAny_call (codeAny_of_tree ?_)
  show wpAny _ _ (callAny (.type "set") _) _ _ _
  refine wpAny_pure ⟨Code.quiet_builtin _ (by decide +kernel), codeAny_builtin PySem.F.entry_type_call ?_⟩
  rw [Around.under_plain (weight_type_call_type "set" [.ref l] []) rfl]
  have h1 := PySem.F.called_set.notType
  have h2 := PySem.F.called_set.canCreate
  have hct := PySem.F.typeCall_set_1 (.ref l)
  repeat (any_goals (first | assumption | wp_step))

  refine codeAny_mono (code_set_led1 (.ref l) (E := E) (Q₁ := fun obj s₁ => obj = .ref s.heap.objs.size ∧ s₁ = { s with heap := s.heap.push { cls := .type "set", dict := none, data := .set #[] 0 (.fresh 0 0 (!w.params.followText "set-order")) } }) ⟨rfl, rfl⟩) fun r s₁ hr => ?_
  cases r with
  | error e => exact hr
  | ok fl =>
    cases fl with
    | ret obj =>
      obtain ⟨rfl, rfl⟩ := hr
      have hS : (s.heap.push { cls := .type "set", dict := none, data := .set #[] 0 (.fresh 0 0 (!w.params.followText "set-order")) }).get? s.heap.objs.size = some { cls := .type "set", dict := none, data := .set #[] 0 (.fresh 0 0 (!w.params.followText "set-order")) } := Heap.get?_push_size _ rfl
      have hT : Shared.TypeIs { s with heap := s.heap.push { cls := .type "set", dict := none, data := .set #[] 0 (.fresh 0 0 (!w.params.followText "set-order")) } } (.ref s.heap.objs.size) "set" := ⟨_, hS, rfl⟩
      have hli := PySem.F.called_set.init.lookup
      have hbi := PySem.F.called_set.init.bind (.ref s.heap.objs.size)
      repeat (any_goals (first | assumption | wp_step))

      refine codeAny_mono (codeAny_call_builtin (R := wants (fun r s₂ => r = .none ∧ ∃ h' tk m, s₂ = { s with heap := h', toks := tk } ∧ m ≤ xs.length ∧
          SetR w h' s.heap.objs.size (fun k' => xs.any (· == k')) m ∧
          (∀ b o, b < s.heap.objs.size → s.heap.get? b = some o → h'.get? b = some o)) E) PySem.F.called_set.init.plain PySem.F.entry_set_init (check_set_init_1 hT ?_)) fun r₂ s₂ hr₂ => ?_
      · obtain ⟨ol, hol, hcl, nl, hdl⟩ := hl
        obtain ⟨ocls, odict, odata, oslots⟩ := ol
        simp only at hcl hdl
        subst hcl; subst hdl
        have hol' : (s.heap.push { cls := .type "set", dict := none, data := .set #[] 0 (.fresh 0 0 (!w.params.followText "set-order")) }).get? l = some { cls := .type "list", dict := odict, data := .seq items nl, slots := oslots } := Heap.get?_push_of_some _ hol
        have hsls := PySem.F.sub_list_set
        have hslf := PySem.F.sub_list_frozenset
        have hne : (Value.type "list" == Value.type "dict") = false := by decide
        have hl1 : (s.heap.push { cls := .type "set", dict := none, data := .set #[] 0 (.fresh 0 0 (!w.params.followText "set-order")) }).IsList l items := ⟨_, hol', rfl, nl, rfl⟩
        unfold Builtin.«set.__init__» noKeywords Builtin.Frozenset.updateFrom
        generalize hPI : pyIter = PI
        wp_walk
        subst hPI

        refine wpAny_pyIter_list hl1 ?_
        refine wpAny_bind (wpAny_runValue ?_)
        have hlS : l < s.heap.objs.size := Heap.lt_size hol
        have hh3 : A.in1.in1.in1.handled = none := by simp [hh]
        have hneI : l ≠ (s.heap.push { cls := .type "set", dict := none, data := .set #[] 0 (.fresh 0 0 (!w.params.followText "set-order")) }).objs.size := by
          rw [Heap.size_push]; exact Nat.ne_of_lt (Nat.lt_succ_of_lt hlS)
        have hSf : s.heap.objs.size ∉ [(s.heap.push { cls := .type "set", dict := none, data := .set #[] 0 (.fresh 0 0 (!w.params.followText "set-order")) }).objs.size, l] := by
          rw [Heap.size_push]; simp only [List.mem_cons, List.mem_singleton, List.not_mem_nil, or_false, not_or]
          exact ⟨Nat.ne_of_lt (Nat.lt_succ_self _), Nat.ne_of_gt hlS⟩
        have hval : ∀ (i : Nat) (v : Value), items[i]? = some v → ∃ t, v = .int (xs.getD i 0) t := fun i v hv => PyProof.Rows.IntsAre.int_at hi i v (by rw [Array.getElem?_toList]; exact hv)
        refine loopInts ((Walks.list hh3 _ l hneI items).toS) s.heap.objs.size
          hSf xs hsz (by rw [← hsz]; exact hn1) hval (items.size - 0) 0 _ (by omega) (Nat.zero_le _)
          ⟨⟨_, Heap.get?_push_size _ rfl, rfl, rfl⟩, (hl1.push _)⟩ ?hS0 ?hR
        case hS0 =>
          have hget : ((s.heap.push { cls := .type "set", dict := none, data := .set #[] 0 (.fresh 0 0 (!w.params.followText "set-order")) }).push { cls := .type "list_iterator", data := .fields #[.ref l, .int 0 0] }).get? s.heap.objs.size
              = some { cls := .type "set", dict := none, data := .set #[] 0 (.fresh 0 0 (!w.params.followText "set-order")) } := Heap.get?_push_of_some _ hS
          exact ⟨0, Nat.le_refl _, setR_freshH hget⟩
        case hR =>
          intro s' hm hS'
          obtain ⟨m, hm1, hS'⟩ := hS'
          obtain ⟨h', g', d', tk', os'⟩ := s'
          have eg : g' = s.gens := hm.gens
          have ed : d' = s.drawn := hm.drawn
          have eo : os' = s.os := hm.os
          subst eg; subst ed; subst eo
          show wpAny _ _ _ _ _ _
          refine wpAny_pure ?_
          show wpAny _ _ (ret Value.none) _ _ _
          rw [← hsz, List.take_length] at hS'
          refine wpAny_pure ⟨rfl, h', tk', m, rfl, by omega, hS', fun b o hb e => ?_⟩
          have hb1 : b ≠ s.heap.objs.size := Nat.ne_of_lt hb
          have hb2 : b ≠ (s.heap.push { cls := .type "set", dict := none, data := .set #[] 0 (.fresh 0 0 (!w.params.followText "set-order")) }).objs.size := by
            rw [Heap.size_push]; exact Nat.ne_of_lt (Nat.lt_succ_of_lt hb)
          exact hm.heap b o (by simp only [List.mem_cons, List.mem_singleton, List.not_mem_nil, or_false, not_or]; exact ⟨hb1, hb2⟩) (Heap.get?_push_of_some _ (Heap.get?_push_of_some _ e))

      · cases r₂ with
        | error e => exact hr₂
        | ok fl₂ =>
          cases fl₂ with
          | ret r =>
            obtain ⟨rfl, h', tk, m, rfl, hm1, hS', hk'⟩ := hr₂
            repeat (any_goals (first | assumption | wp_step))
            exact h _ _ _ hm1 hS' hk'
          | _ => exact hr₂.elim
    | _ => exact hr.elim
end
end SI
namespace L2
open PySem PySem.Spec PyProof.Rows
section
variable {X : Cx}
def rSetSI (X : Cx) : List V → Hp → VK → Prop := fun xs H Q => ∃ (l : Addr) (ts : List Int), xs = [.ref l] ∧ SqL X.K H l (ts.map V.int) ∧ ts.length < 64 ∧
  ∀ p m, m ≤ ts.length → H p = none → Q (.ref p) (upd H p (SetO X.w p (fun k => ts.any (· == k)) m))
theorem cr_setSI (hc : X.calm = true) : CallR X (.type "set") (rSetSI X) := by
  intro pins s σ H xs us Q I r h
  obtain ⟨l, ts, rfl, hq, h64, q⟩ := h
  obtain ⟨its, rv, pl, hz⟩ := I.list hq
  rw [Vals.ref1 r]
  refine SI.call_set_ints (I.ok.hd hc) pl.isList (by simpa using intsAre_of rv) h64 fun h' tk m hm1 hS hk => ?_
  have k : ∀ b o, s.heap.get? b = some o → h'.get? b = some o := fun b o e => hk b o (Heap.lt_size e) e
  exact ⟨.ref _, upd H s.heap.objs.size _, I.laid (t' := tk) k (Nat.le_refl _) (setO_new hS), rfl, q _ m hm1 (I.hok.fresh (Nat.le_refl _))⟩
end
end L2

/-! VSJ: alike data, sorted; tuples and lists from their ends on. -/
namespace SrtD
open PySem PySem.Spec PyProof.Rows L2 PySem.W
theorem each_v : ∀ {xs : List V} {us : List Value} {ds : List PyData}, Vals xs us → xs.length = ds.length → EachIs (fun v (b : V × PyData) => RelV b.1 v) us (xs.zip ds)
  | [], _, _, r, _ => by cases r; exact .nil
  | _ :: _, _, [], _, e => by simp at e
  | x :: xs, _, d :: ds, r, e => by
    cases r with
    | cons r1 r2 => exact .cons r1 (each_v r2 (by simpa using e))
theorem each_d {X : Cx} {pins : List (Addr × Obj)} {σ : L2.St} {H : Hp} {s : Shared} (I : Inv X pins σ H s) : ∀ {xs : List V} {us : List Value} {ds : List PyData}, Vals xs us → DpAll X.K H xs ds → EachIs (fun v (b : V × PyData) => ∃ as, Reads s.heap v b.2 as) us (xs.zip ds)
  | [], _, _, r, h => by cases r; cases h; exact .nil
  | x :: xs, _, _, r, h => by
    cases r with
    | cons r1 r2 =>
      cases h with
      | cons h1 h2 => exact .cons (Dp.reads I _ _ _ h1 r1) (each_d I r2 h2)
theorem vals_each : ∀ {bs : List (V × PyData)} {us : List Value}, EachIs (fun v (b : V × PyData) => RelV b.1 v) us bs → Vals (bs.map Prod.fst) us
  | [], _, h => by cases h; exact .nil
  | b :: bs, _, h => by
    cases h with
    | cons h1 h2 => exact .cons h1 (vals_each h2)
theorem dp_len {K : PySem.W.Frag} {H : Hp} : ∀ {xs : List V} {ds : List PyData}, DpAll K H xs ds → xs.length = ds.length
  | _, _, .nil => rfl
  | _, _, .cons _ h => by rw [List.length_cons, List.length_cons, dp_len h]
theorem zip_snd {xs : List V} {ds : List PyData} (h : xs.length = ds.length) : (xs.zip ds).map Prod.snd = ds := by
  rw [List.map_snd_zip]
  omega
def rSortedD (K : PySem.W.Frag) : List V → Hp → VK → Prop := fun vs H Q => ∃ a xs ds, vs = [.ref a] ∧ SqL K H a xs ∧ DpAll K H xs ds ∧ (AllAlike ds ∧ Sortable ds ∧ ∀ d ∈ ds, d.depth ≤ 60) ∧ ∀ p, H p = none → Q (.ref p) (upd H p (.lst (((xs.zip ds).mergeSort (dataLe false Prod.snd)).map Prod.fst)))
theorem cr_sortedD {X : Cx} (hu : X.A.units + 65 < cLine) : CallR X (.builtin "sorted") (rSortedD X.K) := by
  intro pins s σ H vs us Q I r h
  obtain ⟨a, xs, ds, rfl, hs, hd, ⟨hal, hk, hdp⟩, q⟩ := h
  obtain ⟨its, rv, hl, hz⟩ := I.list hs
  rw [Vals.ref1 r]
  have len := dp_len hd
  have zs := zip_snd len
  have hlen : (xs.zip ds).length ≤ sizeLine := by
    rw [List.length_zip]
    omega
  refine sorted_data (bs := xs.zip ds) (enc := Prod.snd) (R := fun v b => RelV b.1 v) hl.isList (each_v rv len) (each_d I rv hd) (by rw [zs]; exact hal) (by rw [zs]; exact hk) hlen (fun b hb => ?_) fun out ho eo => ?_
  · have : b.2 ∈ ds := by
      rw [← zs]
      exact List.mem_map.mpr ⟨b, hb, rfl⟩
    have := hdp _ this
    omega
  · obtain ⟨ep, he'⟩ := PyProof.Rows.sortedAll_at s.heap its out.toArray
    have rv' := vals_each eo
    have hl2 : (((xs.zip ds).mergeSort (dataLe false Prod.snd)).map Prod.fst).length ≤ sizeLine := by
      rw [List.length_map, List.length_mergeSort]
      exact hlen
    exact ⟨.ref _, upd H (s.heap.objs.size + 1) (.lst (((xs.zip ds).mergeSort (dataLe false Prod.snd)).map Prod.fst)), I.laid (t' := s.toks) (fun _ _ => PyProof.Rows.sortedAll_old) (Nat.le_succ _) ⟨hl2, out, ep, rv', he'⟩, rfl, q _ (I.hok.fresh (Nat.le_succ _))⟩
end SrtD
namespace RevT
open PySem PySem.Spec PyProof.Rows L2 HT
section
variable {prog : Program} {w : World} {A : Around} {E : Value → Shared → Prop} {s : Shared}
theorem adjust_rev (n : Nat) : Builtin.Slice.sliceAdjust none none (-1) (n : Int) = ((n : Int) - 1, -1) := by
  simp [Builtin.Slice.sliceAdjust]
theorem places_rev (n : Nat) : Builtin.Slice.slicePlaces ((n : Int) - 1) (-1) (-1) = n := by
  unfold Builtin.Slice.slicePlaces
  rw [if_neg (by decide)]
  by_cases h : (n : Int) - 1 > -1
  · rw [if_pos h, show (- -1 : Int) = 1 by decide, Int.ediv_one]
    omega
  · rw [if_neg h]
    omega
theorem sliceApplied_rev {sl : Addr} {vl vu vs : Value} {n : Nat} {Q : Int × Int × Nat → Shared → Prop} (hs : s.heap.IsSliceOf sl vl vu vs) (pl : IsPart vl none) (pu : IsPart vu none) (ps : IsPart vs (some (-1)))
    (h : Q ((n : Int) - 1, -1, n) s) : wpAny (model prog w) A (Builtin.Slice.sliceApplied (.ref sl) (pure (n : Int))) Q E s := by
  obtain ⟨os, hos, hcs, hds⟩ := id hs
  unfold Builtin.Slice.sliceApplied Builtin.Slice.sliceFields
  refine wpAny_bind (wpAny_bind (wpAny_field hos hds (x := vl) rfl (wpAny_bind (wpAny_field hos hds (x := vu) rfl (wpAny_bind (wpAny_field hos hds (x := vs) rfl (wpAny_pure ?_)))))))
  refine wpAny_bind (slicePart_ ps ?_)
  show wpAny _ _ (if ((-1 : Int) == 0) = true then _ else _) _ _ s
  rw [if_neg (by decide)]
  refine wpAny_bind (slicePart_ pl (wpAny_bind (slicePart_ pu (wpAny_bind (wpAny_pure ?_)))))
  show wpAny _ _ (match Builtin.Slice.sliceAdjust none none (-1) (n : Int) with | (lo, hi) => pure (lo, (-1 : Int), Builtin.Slice.slicePlaces lo hi (-1))) _ _ s
  rw [adjust_rev]
  show wpAny _ _ (pure ((n : Int) - 1, (-1 : Int), Builtin.Slice.slicePlaces ((n : Int) - 1) (-1) (-1))) _ _ s
  rw [places_rev]
  exact wpAny_pure h
theorem fm_congr {α β : Type} {f g : α → Option β} : ∀ {l : List α}, (∀ x ∈ l, f x = g x) → l.filterMap f = l.filterMap g
  | [], _ => rfl
  | x :: l, h => by
    rw [List.filterMap_cons, List.filterMap_cons, h x List.mem_cons_self, fm_congr fun y hy => h y (List.mem_cons_of_mem _ hy)]
theorem pick_rev (xs : Array Value) : ((List.range xs.size).filterMap fun (m : Nat) => xs[((xs.size : Int) - 1 + (m : Int) * -1).toNat]?).toArray = xs.toList.reverse.toArray := by
  have e : ((List.range xs.size).filterMap fun (m : Nat) => xs[((xs.size : Int) - 1 + (m : Int) * -1).toNat]?) = ((List.range xs.size).map fun k => xs.size - 1 - k).filterMap (xs[·]?) := by
    rw [List.filterMap_map]
    refine fm_congr fun m hm => ?_
    have := List.mem_range.mp hm
    show xs[_]? = xs[xs.size - 1 - m]?
    rw [show ((xs.size : Int) - 1 + (m : Int) * -1).toNat = xs.size - 1 - m by omega]
  rw [e, PySem.W.krv_range, List.filterMap_reverse, PySem.W.krv_all]
theorem getItem_tuple_rev {t sl : Addr} {items : Array Value} {vl vu vs : Value} {Q : Value → Shared → Prop} (ht : IsTup s.heap t items) (hs : s.heap.IsSliceOf sl vl vu vs) (pl : IsPart vl none) (pu : IsPart vu none) (ps : IsPart vs (some (-1)))
    (h : Q (.ref s.heap.objs.size) { s with heap := s.heap.push { cls := .type "tuple", data := .seq items.toList.reverse.toArray } })
    (hsz : items.size ≤ sizeLine) : wpAny (model prog w) A (getItem (.ref t) (.ref sl)) Q E s := by
  have htake : sizeOk (.seq items.toList.reverse.toArray) := by
    show items.toList.reverse.toArray.size ≤ sizeLine
    rw [List.size_toArray, List.length_reverse, Array.length_toList]
    exact hsz
  obtain ⟨os, hos, hcs, hds⟩ := id hs
  have hTs : s.TypeIs (.ref sl) "slice" := ⟨os, hos, hcs⟩
  unfold getItem
  try with_reducible refine wpAny_holding ?_
  first | refine wpAny_bind (wpAny_pure ?_) | skip
  refine wpAny_bind (wpAny_sequenceKey ht.typeIs (by decide) ?_)
  refine wpAny_bind (wpAny_callSpecial?_slot (name := Str.ofString "__getitem__") ht.typeIs PyProof.Rows.slot_tuple_getitem
    (wpAny_call_entry PyProof.Rows.slot_tuple_getitem ht.typeIs entry_tuple_getitem ?_ (args_tuple_getitem _ _)))
  show wpAny _ _ (Builtin.Tuple.tupleItemsOf (.ref t) >>= _) _ _ s
  refine wpAny_bind (tupleItemsOf_ ht ?_)
  refine wpAny_bind (wpAny_typeOf hTs ?_)
  rw [if_pos (by decide)]
  refine wpAny_bind (sliceApplied_rev hs pl pu ps ?_)
  have hno : ¬ ((((items.size : Int) - 1) == 0 && (-1 : Int) == 1 && items.size == items.size) = true) := by
    intro q
    rw [Bool.and_eq_true, Bool.and_eq_true] at q
    exact absurd (eq_of_beq q.1.2) (by decide)
  show wpAny _ _ (if ((((items.size : Int) - 1) == 0 && (-1 : Int) == 1 && items.size == items.size) = true) then _ else _) _ _ s
  rw [if_neg hno, pick_rev]
  first
    | exact wpAny_bind (m := Builtin.Tuple.tupleExact _) (wpAny_newObj_type (wpAny_pure ⟨_, rfl, wpAny_pure h⟩) htake)
    | exact wpAny_bind (m := Builtin.Tuple.tupleExact _) (wpAny_newObj_type (wpAny_bind (wpAny_pure (wpAny_pure ⟨_, rfl, wpAny_pure h⟩))) htake)
    | exact wpAny_bind (wpAny_bind (m := Builtin.Tuple.tupleExact _) (wpAny_newObj_type (wpAny_pure (wpAny_pure ⟨_, rfl, wpAny_pure h⟩)) htake))
    | exact wpAny_bind (wpAny_bind (m := Builtin.Tuple.tupleExact _) (wpAny_newObj_type (wpAny_pure ⟨_, rfl, wpAny_pure h⟩) htake))
end
/-- x[::-1] of a list or a tuple -/
def tRev (K : PySem.W.Frag) (te : TE) : TE := fun σ H Q => te σ H fun x H1 => ∃ a xs, x = .ref a ∧ ((SqL K H1 a xs ∧ ∀ p, H1 p = none → Q (.ref p) (upd H1 p (.lst xs.reverse))) ∨ (SqT K H1 a xs ∧ ∀ p, H1 p = none → Q (.ref p) (upd H1 p (.tup xs.reverse))))
theorem pe_rev {X : Cx} {e : Expr} {te : TE} {k : Nat} {p1 p2 p3 pos : Pos} (he : PE X e te) : PE X (.Subscript e (.Slice none none (some (.UnaryOp .USub (.Constant (.int 1) k p1) p2)) p3) pos) (tRev X.K te) := by
  refine ⟨fun pins s σ H Q I h => ?_⟩
  refine Subscript_ (thn (he.run pins s σ H _ I h) fun v s1 ⟨x, H1, I1, r1, q1⟩ => ?_)
  obtain ⟨a, xs, ex, q1⟩ := q1
  subst ex
  cases r1
  have hst : PO X (some (.UnaryOp .USub (.Constant (.int 1) k p1) p2)) (tPart (tUn (rU fun i => .int (-i)) (tC (.int 1)))) := po_some (pe_un un_neg pe_int)
  refine wpAny_Slice (thn (po_none.run pins s1 σ H1 (fun o H2 => o = none ∧ H2 = H1) I1 ⟨rfl, rfl⟩) fun vl s2 ⟨l, H2, I2, pl, el, e2⟩ => ?_)
  subst el e2
  refine thn (po_none.run pins s2 σ H2 (fun o H3 => o = none ∧ H3 = H2) I2 ⟨rfl, rfl⟩) fun vu s3 ⟨u, H3, I3, pu, eu, e3⟩ => ?_
  subst eu e3
  refine thn (hst.run pins s3 σ H3 (fun o H4 => o = some (-1) ∧ H4 = H3) I3 ⟨1, rfl, -1, rfl, rfl, rfl⟩) fun vs s4 ⟨o, H4, I4, ps, eo, e4⟩ => ?_
  subst eo e4
  have I5 : Inv X pins σ H4 { s4 with heap := s4.heap.push { cls := .type "slice", data := .fields #[vl, vu, vs] } } := I4.kept (t' := s4.toks) fun b ob q => Heap.get?_push_of_some _ q
  rcases q1 with ⟨hx, q⟩ | ⟨hx, q⟩
  · obtain ⟨its, r, ht, hz⟩ := I5.list hx
    have hlen := r.length
    show wpAny (model X.prog X.w) X.A (subscriptTail e (.Slice none none (some (.UnaryOp .USub (.Constant (.int 1) k p1) p2)) p3) (.ref a) (.ref s4.heap.objs.size)) (EP X pins σ Q) X.xe { s4 with heap := s4.heap.push { cls := .type "slice", data := .fields #[vl, vu, vs] } }
    refine tail_any (ops := [.ref a, .ref s4.heap.objs.size]) ht.isList.typeIs (PySem.slot_list_getitem.lookup) ?_ (by with_unfolding_all rfl)
    refine wpAny_getItem_list_slice ht.isList (Heap.IsSliceOf.new _ vl vu vs) pl pu ps (by decide) ?_ (by rw [List.size_toArray]; omega)
    rw [PySem.W.krv_pick]
    refine ⟨.ref _, _, I5.laid (t' := s4.toks) (o := .lst xs.reverse) (fun b ob q => Heap.get?_push_of_some _ q) (Nat.le_refl _) ?_, rfl, q _ (I5.hok.fresh (Nat.le_refl _))⟩
    exact ⟨by rw [List.length_reverse]; exact hz, _, 0, r.reverse, Heap.get?_push_size _ rfl⟩
  · obtain ⟨its, r, ht, hz⟩ := I5.tuple hx
    have hlen := r.length
    have ht : IsTup _ a its.toArray := ht
    show wpAny (model X.prog X.w) X.A (subscriptTail e (.Slice none none (some (.UnaryOp .USub (.Constant (.int 1) k p1) p2)) p3) (.ref a) (.ref s4.heap.objs.size)) (EP X pins σ Q) X.xe { s4 with heap := s4.heap.push { cls := .type "slice", data := .fields #[vl, vu, vs] } }
    refine tail_any (ops := [.ref a, .ref s4.heap.objs.size]) ht.typeIs (PyProof.Rows.slot_tuple_getitem.lookup) ?_ (by with_unfolding_all rfl)
    refine getItem_tuple_rev ht (Heap.IsSliceOf.new _ vl vu vs) pl pu ps ?_ (by rw [List.size_toArray]; omega)
    refine ⟨.ref _, _, I5.laid (t' := s4.toks) (o := .tup xs.reverse) (fun b ob q => Heap.get?_push_of_some _ q) (Nat.le_refl _) ?_, rfl, q _ (I5.hok.fresh (Nat.le_refl _))⟩
    exact ⟨by rw [List.length_reverse]; exact hz, _, r.reverse, ⟨_, Heap.get?_push_size _ rfl, rfl, _, rfl⟩⟩
end RevT

/-! VI11: the soundness of expressions: calls, iterables, comprehensions. -/
namespace VI
open PySem PySem.Spec PyProof.Rows L2
theorem backTo_any {pos : Pos} : ∀ {l : List (Bool × PySem.Sem Value)}, l.any (·.1) = false → (backTo pos l).any (·.1) = false := by
  intro l h
  unfold backTo
  rw [List.any_map]
  exact h
section
variable {tb : Tb}
theorem any_tail {e : Expr} {es : List Expr} {env : Env} (h : notStar e = true) (q : (starEach (e :: es) env).any (·.1) = false) : (starEach es env).any (·.1) = false := by
  rw [star_of h, List.any_cons] at q
  exact q
theorem l_star {c : Ctx} {r : IE} {e : Expr} {es : List Expr} (h : (ck r c).l (e :: es) = true) : notStar e = true := let ⟨_, _, _, q, _, _⟩ := l_cons h; q
theorem l_star2 {c : Ctx} {r : IE} {e f : Expr} {es : List Expr} (h : (ck r c).l (e :: f :: es) = true) : notStar f = true := let ⟨_, _, _, _, _, q⟩ := l_cons h; l_star q
theorem snd_call (n : Nat) {r : IE} (hr : Snd tb r) : Snd tb (.call n r) := sndE (f := fun c e => match e with
      | .Call (.Name f _) es [] _ => decide (c.fns[n]? = some (f, es.length)) && (glB c.sc f && (okNm f && (ck r c).l es))
      | _ => false) (fun c X cx e h => by
  split at h
  · rename_i f pf es pos
    obtain ⟨h1, hA⟩ := band h
    obtain ⟨h2, hB⟩ := band hA
    obtain ⟨h3, h4⟩ := band hB
    clear h hA hB
    have h1 := of_decide_eq_true h1
    rw [cx.fns, List.getElem?_map] at h1
    cases hq : tb.fn[n]? with
    | none => rw [hq] at h1; cases h1
    | some q =>
      rw [hq] at h1
      obtain ⟨qn, qa, qs⟩ := q
      have h1 : some (qn, qa) = some (f, es.length) := h1
      cases h1
      obtain ⟨fa, fd, ps, k, F, hr0, hm, hk, hb⟩ := (cx.ok n _ hq).ok
      have hs : tb.sem n = qs := by
        unfold Tb.sem
        rw [hq]
      have main : ∀ σ H Q, TEs X.K tb (.call n r) σ H Q → tCall (spG X.K es.length qs) [] E0 (TLs X.K tb r es.length) σ H Q := fun σ H Q ⟨w, st, env, ok, er, h⟩ => by
        refine bL cx.mono r ok er h fun evs st1 q vs H1 w1 le1 ok1 r1 hl => ?_
        obtain ⟨ri, q⟩ := r1.inner q
        rw [hs] at q
        refine ⟨by rw [List.append_nil]; exact hl, w1.inner st1, st1.g, evs, rfl, ok1.inner, by rw [List.append_nil]; exact ri, ?_⟩
        have mq : qs evs st1.g (fun v g => PostW X.K H w st Q v ⟨g, st1.l⟩) := q
        have mm : SemMono qs := by rw [← hs]; exact cx.mono n
        refine mm _ _ _ _ (fun ev g hk' v H' w' hla le ok' r' => ?_) mq
        obtain ⟨a, b, d⟩ := outer_of ok1 hla le ok'
        exact hk' v H' _ (le1.trans a) b (d v ev r')
      cases es with
      | nil =>
        have e0 := l_nil h4
        subst e0
        refine PE.mono (pe_callG0 F hr0 cx.xo.gd (gl_of cx.sc h2) hm hk hb (okNm_of h3).1) fun σ H Q h => ?_
        obtain ⟨w, st, env, ok, er, h⟩ := h
        exact main σ H Q ⟨w, st, env, ok, er, h⟩ |> fun ⟨w', st', env', ok', er', h'⟩ => h' [] H w' Le.refl ok' .nil rfl
      | cons e es =>
        have h5 := l_star h4
        obtain ⟨p1, p2⟩ := hr.l c X cx _ h4
        exact PE.mono (pe_callG F hr0 cx.xo.gd (gl_of cx.sc h2) hm hk hb p1 (okNm_of h3).1 (star_of h5) (backTo_any (any_tail h5 (p2 _)))) main
  · cases h) (fun _ => rfl)
theorem starAny_of {env : Env} : ∀ {es : List Expr}, es.any isStarE = true → (starEach es env).any (·.1) = true
  | [], h => by cases h
  | e :: es, h => by
    cases e with
    | Starred e p =>
      show (((true, eval e env) : Bool × PySem.Sem Value) :: starEach es env).any (·.1) = true
      rfl
    | _ =>
      have h : es.any isStarE = true := h
      have q := starAny_of (env := env) h
      rw [star_of rfl, List.any_cons, q, Bool.or_true]
theorem backTo_anyT {pos : Pos} {l : List (Bool × PySem.Sem Value)} (h : l.any (·.1) = true) : (backTo pos l).any (·.1) = true := by
  unfold backTo
  rw [List.any_map]
  exact h
theorem snd_blt (b : Blt) (kd : Nat) {r : IE} (hr : Snd tb r) : Snd tb (.blt b kd r) := sndE (f := fun c e => match e with
      | .Call (.Name f _) (e :: es) [] _ => decide (f = bltN b) && ((c.gcd.g || decide (b ≠ .gcd)) && (c.gcd.i || decide (b ≠ .isqrt)) && (glB c.sc f && (ck r c).l (e :: es)))
      | _ => false) (fun c X cx e h => by
  split at h
  · rename_i f pf e es pos
    obtain ⟨h1, hA⟩ := band h
    obtain ⟨h2, hB⟩ := band hA
    obtain ⟨h3, h4⟩ := band hB
    clear h hA hB
    have h1 := of_decide_eq_true h1
    subst h1
    have h5 := l_star h4
    obtain ⟨p1, p2⟩ := hr.l c X cx _ h4
    have st := star_of (es := es) (env := X.env) h5
    have bk := backTo_any (pos := pos) (any_tail h5 (p2 X.env))
    have hg := gl_of cx.sc h3
    have main : ∀ σ H Q, TEs X.K tb (.blt b kd r) σ H Q → tCB (rBlt X.K b kd) (TLs X.K tb r (e :: es).length) σ H Q := fun σ H Q ⟨w, st, env, ok, er, h⟩ =>
      bL cx.mono r ok er h fun evs st1 q vs H1 w1 le1 ok1 r1 hl => ⟨w1, st1, evs, ok1, r1, bltK_mono (fun ev st2 hz v H' w' le2 ok2 r2 => hz v H' w' (le1.trans le2) ok2 r2) q⟩
    have cb := call_blt (X := X) cx.xo b kd
    cases b with
    | str => exact PE.mono (pe_callTy cb hg (cx.mgn _ (by decide)) (by decide +kernel) p1 (by decide) (by decide) st bk) main
    | len => exact PE.mono (pe_callB cb hg (cx.mgn _ (by decide)) (by decide +kernel) p1 (by decide) (by decide) st bk) main
    | abs => exact PE.mono (pe_callB cb hg (cx.mgn _ (by decide)) (by decide +kernel) p1 (by decide) (by decide) st bk) main
    | int => exact PE.mono (pe_callTy cb hg (cx.mgn _ (by decide)) (by decide +kernel) p1 (by decide) (by decide) st bk) main
    | min2 => exact PE.mono (pe_callB cb hg (cx.mgn _ (by decide)) (by decide +kernel) p1 (by decide) (by decide) st bk) main
    | max2 => exact PE.mono (pe_callB cb hg (cx.mgn _ (by decide)) (by decide +kernel) p1 (by decide) (by decide) st bk) main
    | min3 => exact PE.mono (pe_callB cb hg (cx.mgn _ (by decide)) (by decide +kernel) p1 (by decide) (by decide) st bk) main
    | max3 => exact PE.mono (pe_callB cb hg (cx.mgn _ (by decide)) (by decide +kernel) p1 (by decide) (by decide) st bk) main
    | maxL => exact PE.mono (pe_callB cb hg (cx.mgn _ (by decide)) (by decide +kernel) p1 (by decide) (by decide) st bk) main
    | minL => exact PE.mono (pe_callB cb hg (cx.mgn _ (by decide)) (by decide +kernel) p1 (by decide) (by decide) st bk) main
    | gcd =>
      have hgc : c.gcd.g = true := by
        rcases Bool.or_eq_true_iff.mp (band h2).1 with z | z
        · exact z
        · exact absurd rfl (of_decide_eq_true z)
      exact PE.mono (pe_callBfun cb hg (cx.gcd hgc) p1 (by decide) st bk) main
    | isqrt =>
      have hgc : c.gcd.i = true := by
        rcases Bool.or_eq_true_iff.mp (band h2).2 with z | z
        · exact z
        · exact absurd rfl (of_decide_eq_true z)
      exact PE.mono (pe_callBfun cb hg (cx.isq hgc) p1 (by decide) st bk) main
    | all => exact PE.mono (pe_callB cb hg (cx.mgn _ (by decide)) (by decide +kernel) p1 (by decide) (by decide) st bk) main
    | any => exact PE.mono (pe_callB cb hg (cx.mgn _ (by decide)) (by decide +kernel) p1 (by decide) (by decide) st bk) main
    | tuple => exact PE.mono (pe_callTy cb hg (cx.mgn _ (by decide)) (by decide +kernel) p1 (by decide) (by decide) st bk) main
    | list => exact PE.mono (pe_callTy cb hg (cx.mgn _ (by decide)) (by decide +kernel) p1 (by decide) (by decide) st bk) main
    | repr => exact PE.mono (pe_callB cb hg (cx.mgn _ (by decide)) (by decide +kernel) p1 (by decide) (by decide) st bk) main
  · cases h) (fun _ => rfl)
/-! ### iterables -/
/-- what is only walked -/
theorem sndI {ie : IE} {f : Ctx → Expr → Expr → Bool} (hi : ∀ c X, CxOk tb c X → ∀ tg it, f c tg it = true → PI X tg it (TIs X.K tb ie)) (hc : ∀ c, ck ie c = { noCK with i := f c }) : Snd tb ie where
  e := fun c X cx e h => by rw [hc] at h; exact ff h
  t := fun c X cx e h => by rw [hc] at h; exact ff h
  l := fun c X cx e h => by rw [hc] at h; exact ff h
  i := fun c X cx tg it h => hi c X cx tg it (by rw [hc] at h; exact h)
  g := fun c X cx e h => by rw [hc] at h; exact ff h
  gl := fun c X cx e h => by rw [hc] at h; exact ff h
  o := fun c X cx e h => by rw [hc] at h; exact ff h
theorem Ys.downto {K : PySem.W.Frag} {H : Hp} {w : Wd} {st : Sto} (hi : Int) (n : Nat) : Ys K (Itc hi (-1) n) H w st (downto hi n) := fun H' w' st' le ok i => by
  unfold VI.downto
  refine ⟨fun h => ?_, fun x hx => ?_⟩
  · have h' : n ≤ i := by simpa using h
    exact h'
  rw [List.getElem?_map] at hx
  by_cases hi : i < n
  · rw [List.getElem?_range hi] at hx
    cases hx
    refine ⟨hi, fun v H2 ⟨e1, e2⟩ => ?_⟩
    subst e1 e2
    refine ⟨Le.refl, ok, ?_⟩
    rw [show ∀ z : Int, z + (i : Int) * (-1) = z - (i : Nat) by intro z; omega]
    exact .int _
  · rw [List.getElem?_eq_none (by simpa using hi)] at hx
    cases hx
section
variable {X : Cx} {tg : Expr}
theorem turn_long {P : Program} {w : World} {K : PySem.W.Frag} {tg : Expr} (it : Addr) (lo : Int) (n : Nat) : Turn P w K tg (Itr lo n) [it] it (fun i h => IsLongIter h it (lo + (i : Nat) * 1) ((n : Int) - (i : Nat)) 1) where
  mem := by simp
  obj := fun i h st b hb => by
    cases (show b = it by simpa using hb)
    exact ⟨_, st, fun v z => nomatch (show Data.fields _ = Data.cell v from z)⟩
  keep := fun i h h' st k => k it (by simp) _ st
  item := by
    intro X hP hw hK hc i pins s σ H E I hf st hg
    subst hP hw hK
    obtain ⟨f0, f1, f2, f3, f4, f5⟩ := hf it (by simp)
    refine (Walks.longrange (prog := X.prog) (w := X.w) (I.ok.hd hc) it lo 1 n).item i s _ _ hg st fun v h' tk hv st' kk => ?_
    obtain ⟨t, rfl⟩ := hv
    have I1 : Inv X pins σ H { s with heap := h', toks := tk } := I.turned (fun b o hb e => kk b o (by simpa using hb) e) f0 f1 f3 f4 f5
    refine ⟨_, rfl, go_of (s := { s with heap := h', toks := tk }) (n := "longrange_iterator") st' rfl rfl (by decide) ⟨.int (lo + i), H, I1, ⟨t, ?_⟩, ⟨rfl, rfl⟩, st', fun b hb => (hf b hb).1⟩⟩
    rw [Int.mul_one]
  done := by
    intro X hP hw hK hc i pins s σ H E I hf st hg
    subst hP hw hK
    obtain ⟨f0, f1, f2, f3, f4, f5⟩ := hf it (by simp)
    exact wpAny_pyNext_long_end (I.ok.hd hc) st (by have : n ≤ i := hg; omega) fun h' eb => ⟨rfl, I.turned (t' := s.toks) (fun b o hb e => eb b o hb e) f0 f1 f3 f4 f5⟩
  self := fun _ _ _ _ _ st h => wpAny_pyIter_longiter st h
theorem range_any {pins : List (Addr × Obj)} {σ : L2.St} {H : Hp} {s : Shared} {R : It → Hp → Prop} {E : Value → Shared → Prop} {lo hi : Int} {t u v : Tok} {tk : Nat} (I : Inv X pins σ H s)
    (q : R (Itr lo (hi - lo).toNat) H) : wpAny (model X.prog X.w) X.A (pyIter (.ref s.heap.objs.size)) (PIE X pins σ tg R) E { s with heap := s.heap.push { cls := .type "range", data := .fields #[.int lo t, .int hi u, .int 1 v] }, toks := tk } := by
  have I1 : Inv X pins σ H { s with heap := s.heap.push { cls := .type "range", data := .fields #[.int lo t, .int hi u, .int 1 v] }, toks := tk } := I.kept fun b o e => Heap.get?_push_of_some _ e
  have e1 : lo + ((0 : Nat) : Int) * 1 = lo := by simp
  have e2 : (((hi - lo).toNat : Nat) : Int) - ((0 : Nat) : Int) = Builtin.Range.rangeSize lo hi 1 := by rw [rangeSize_one]; split <;> omega
  by_cases sm : Builtin.Range.small lo hi 1 = true
  · refine wpAny_pyIter_range (IsRange.new ..) sm ?_
    refine ⟨_, [(s.heap.push { cls := .type "range", data := .fields #[.int lo t, .int hi u, .int 1 v] }).objs.size], _, _, H, rfl,
      I1.kept (t' := tk) fun b o e => Heap.get?_push_of_some _ e, turn_range _ lo (hi - lo).toNat, ?_, fun b hb => ?_, q⟩
    · show IsRangeIter _ _ (lo + ((0 : Nat) : Int) * 1) ((((hi - lo).toNat : Nat) : Int) - ((0 : Nat) : Int)) 1
      rw [e1, e2]
      exact Heap.get?_push_size _ rfl
    · have e : b = (s.heap.push { cls := .type "range", data := .fields #[.int lo t, .int hi u, .int 1 v] }).objs.size := by simpa using hb
      subst e
      exact I1.fpOk (Nat.le_refl _) (I1.hok.fresh (Nat.le_refl _))
  · refine wpAny_pyIter_longrange (IsRange.new ..) (by simpa using sm) ?_
    refine ⟨_, [(s.heap.push { cls := .type "range", data := .fields #[.int lo t, .int hi u, .int 1 v] }).objs.size], _, _, H, rfl,
      I1.kept (t' := tk) fun b o e => Heap.get?_push_of_some _ e, turn_long _ lo (hi - lo).toNat, ?_, fun b hb => ?_, q⟩
    · show IsLongIter _ _ (lo + ((0 : Nat) : Int) * 1) ((((hi - lo).toNat : Nat) : Int) - ((0 : Nat) : Int)) 1
      rw [e1, e2]
      exact Heap.get?_push_size _ rfl
    · have e : b = (s.heap.push { cls := .type "range", data := .fields #[.int lo t, .int hi u, .int 1 v] }).objs.size := by simpa using hb
      subst e
      exact I1.fpOk (Nat.le_refl _) (I1.hok.fresh (Nat.le_refl _))
def iRngA (ta : TA) : TI := fun σ H R => ta σ H fun vs H1 => ∃ i j : Int, vs = [.int i, .int j] ∧ R (Itr i (j - i).toNat) H1
theorem pi_rangeA {a b : Expr} {ta : TA} {p pos : Pos} (hg : Gl X "range") (hm : X.mg "range" = none) (ha : PA X [a, b] ta) (hs : starEach [a, b] X.env = [(false, eval a X.env), (false, eval b X.env)] := by rfl) (hs2 : starEach [b] X.env = [(false, eval b X.env)] := by rfl) :
    PI X tg (.Call (.Name "range" p) [a, b] [] pos) (iRngA ta) := by
  refine ⟨fun pins s σ H R I h => ?_⟩
  refine Call_ (ld_blt I hg hm boot_range (PyProof.Rows.callWith_type1 (thn (ha.run pos pins s σ H _ I h) fun us s1 ⟨vs, H1, I1, r1, q1⟩ => ?_) (by rw [hs, hs2]) (by rw [hs2]; rfl)))
  obtain ⟨i, j, e, q⟩ := q1
  subst e
  cases r1 with
  | cons r rr =>
    cases rr with
    | cons r' rr =>
      cases rr
      obtain ⟨t, rfl⟩ := r
      obtain ⟨t', rfl⟩ := r'
      exact call_range_2 (range_any I1 q)
end
theorem snd_rng {r : IE} (hr : Snd tb r) : Snd tb (.rng r) := sndI (f := fun c _ it => match it with
      | .Call (.Name f _) [x] [] _ => decide (f = "range") && (glB c.sc f && (ck r c).l [x])
      | .Call (.Name f _) [x, y] [] _ => decide (f = "range") && (glB c.sc f && (ck r c).l [x, y])
      | .Call (.Name f _) [x, y, z] [] _ => decide (f = "range") && (glB c.sc f && (ck r c).l [x, y, z])
      | _ => false) (fun c X cx tg it h => by
  split at h
  · obtain ⟨h1, h2⟩ := band h
    obtain ⟨h2, h3⟩ := band h2
    have h1 := of_decide_eq_true h1
    subst h1
    have h5 := l_star h3
    refine PI.mono (pi_range1 (gl_of cx.sc h2) (cx.mgn _ (by decide)) (hr.l c X cx _ h3).1 (star_of h5)) fun σ H R ⟨w, st, env, ok, er, h⟩ => ?_
    refine bL cx.mono r ok er h fun evs st1 q vs H1 w1 le1 ok1 r1 hl => ?_
    unfold rngK at q
    split at q
    · obtain ⟨v, rfl, rv⟩ := evreps1 r1
      cases (show Rep _ _ _ v _ from rv)
      exact ⟨_, rfl, q.1.1, q.1.2, q.2 _ H1 w1 le1 ok1 (Ys.range _ _)⟩
    · obtain ⟨v, u, rfl, rv, ru⟩ := evreps2 r1
      exact absurd hl (by simp)
    · obtain ⟨v, u, x, rfl, rv, ru, rx⟩ := evreps3 r1
      exact absurd hl (by simp)
    · exact q.elim
  · obtain ⟨h1, h2⟩ := band h
    obtain ⟨h2, h3⟩ := band h2
    have h1 := of_decide_eq_true h1
    subst h1
    have h5 := l_star h3
    have h7 := l_star2 h3
    refine PI.mono (pi_rangeA (gl_of cx.sc h2) (cx.mgn _ (by decide)) (hr.l c X cx _ h3).1 (by rw [star_of h5, star_of h7]; rfl) (star_of h7)) fun σ H R ⟨w, st, env, ok, er, h⟩ => ?_
    refine bL cx.mono r ok er h fun evs st1 q vs H1 w1 le1 ok1 r1 hl => ?_
    unfold rngK at q
    split at q
    · obtain ⟨v, rfl, rv⟩ := evreps1 r1
      exact absurd hl (by simp)
    · obtain ⟨v, u, rfl, rv, ru⟩ := evreps2 r1
      cases (show Rep _ _ _ v _ from rv)
      cases (show Rep _ _ _ u _ from ru)
      exact ⟨_, _, rfl, q.2 _ H1 w1 le1 ok1 (Ys.range _ _)⟩
    · obtain ⟨v, u, x, rfl, rv, ru, rx⟩ := evreps3 r1
      exact absurd hl (by simp)
    · exact q.elim
  · obtain ⟨h1, h2⟩ := band h
    obtain ⟨h2, h3⟩ := band h2
    have h1 := of_decide_eq_true h1
    subst h1
    have h5 := l_star h3
    obtain ⟨p1, p2⟩ := hr.l c X cx _ h3
    refine PI.mono (pi_range3 (gl_of cx.sc h2) (cx.mgn _ (by decide)) p1 (star_of h5) (backTo_any (any_tail h5 (p2 _)))) fun σ H R ⟨w, st, env, ok, er, h⟩ => ?_
    refine bL cx.mono r ok er h fun evs st1 q vs H1 w1 le1 ok1 r1 hl => ?_
    unfold rngK at q
    split at q
    · obtain ⟨v, rfl, rv⟩ := evreps1 r1
      exact absurd hl (by simp)
    · obtain ⟨v, u, rfl, rv, ru⟩ := evreps2 r1
      exact absurd hl (by simp)
    · obtain ⟨v, u, x, rfl, rv, ru, rx⟩ := evreps3 r1
      cases (show Rep _ _ _ v _ from rv)
      cases (show Rep _ _ _ u _ from ru)
      cases (show Rep _ _ _ x _ from rx)
      obtain ⟨⟨rfl, b1, b2, b3, b4⟩, q⟩ := q
      exact ⟨_, _, _, _, rfl, RgC.neg b1 b2 b3 b4, q _ H1 w1 le1 ok1 (Ys.downto _ _)⟩
    · exact q.elim
  · cases h) (fun _ => rfl)
theorem Ys.enumT {K : PySem.W.Frag} {H : Hp} {w : Wd} {st : Sto} {a : Addr} {vs : List V} {ds : List D} (f : FzT K H (w.M st) a vs) (r : Reps K H (w.M st) vs ds) : Ys K (EnT.IteT K a) H w st (ds.mapIdx fun i x => .tuple [.int (i : Nat), x]) := fun H' w' st' le ok i => by
  have f' := f.conv le
  have r' := r.conv le
  refine ⟨fun h => ⟨vs, f'.sq, by rw [r'.length]; simpa using h⟩, fun x hx => ?_⟩
  rw [List.getElem?_mapIdx] at hx
  cases hd : ds[i]? with
  | none => rw [hd] at hx; cases hx
  | some d =>
    rw [hd] at hx
    cases hx
    obtain ⟨v, hv, rv⟩ := r'.get hd
    refine ⟨⟨vs, v, f'.sq, hv⟩, fun u H2 ⟨T, y, e1, n, e2, hu⟩ => ?_⟩
    subst e1 e2
    have := hu vs f'.sq
    rw [hv] at this
    cases this
    exact new_tup n ok (.cons (.int _) (.cons rv .nil))
theorem lst_d {K : PySem.W.Frag} {H : Hp} {w : Wd} {st : Sto} {v : V} {ds : List D} (r : EVRep K H w st v (.d (.list ds))) : ∃ a xs, v = .ref a ∧ FzL K H (w.M st) a xs ∧ Reps K H (w.M st) xs ds := by
  cases (show Rep _ _ _ v _ from r) with
  | lst f m rs => exact ⟨_, _, rfl, .inl ⟨.inl f, m⟩, rs⟩
theorem tup_d {K : PySem.W.Frag} {H : Hp} {w : Wd} {st : Sto} {v : V} {ds : List D} (r : EVRep K H w st v (.d (.tuple ds))) : ∃ a xs, v = .ref a ∧ FzT K H (w.M st) a xs ∧ Reps K H (w.M st) xs ds := by
  cases (show Rep _ _ _ v _ from r) with
  | tup f rs => exact ⟨_, _, rfl, f, rs⟩
theorem snd_enm {r : IE} (hr : Snd tb r) : Snd tb (.enm r) := sndI (f := fun c tg it => match tg, it with
      | .Tuple _ _ _, .Call (.Name f _) [x] [] _ => decide (f = "enumerate") && (glB c.sc f && (ck r c).l [x])
      | _, _ => false) (fun c X cx tg it h => by
  split at h
  · obtain ⟨h1, h2⟩ := band h
    obtain ⟨h2, h3⟩ := band h2
    have h1 := of_decide_eq_true h1
    subst h1
    have h5 := l_star h3
    refine PI.mono (EnT.pi_enumA (gl_of cx.sc h2) (cx.mgn _ (by decide)) (hr.l c X cx _ h3).1 (star_of h5)) fun σ H R ⟨w, st, env, ok, er, h⟩ => ?_
    refine bL cx.mono r ok er h fun evs st1 q vs H1 w1 le1 ok1 r1 hl => ?_
    unfold enmK at q
    split at q
    · obtain ⟨v, rfl, rv⟩ := evreps1 r1
      obtain ⟨a, xs, rfl, f, rs⟩ := lst_d rv
      exact ⟨a, xs, rfl, .inl ⟨f.sq, q _ H1 w1 le1 ok1 (Ys.enum f rs)⟩⟩
    · obtain ⟨v, rfl, rv⟩ := evreps1 r1
      obtain ⟨a, xs, rfl, f, rs⟩ := tup_d rv
      exact ⟨a, xs, rfl, .inr ⟨f.sq, q _ H1 w1 le1 ok1 (Ys.enumT f rs)⟩⟩
    · exact q.elim
  · cases h) (fun _ => rfl)
theorem snd_zp {r : IE} (hr : Snd tb r) : Snd tb (.zp r) := sndI (f := fun c tg it => match tg, it with
      | .Tuple _ _ _, .Call (.Name f _) [x, y] [] _ => decide (f = "zip") && (glB c.sc f && (ck r c).l [x, y])
      | _, _ => false) (fun c X cx tg it h => by
  split at h
  · obtain ⟨h1, h2⟩ := band h
    obtain ⟨h2, h3⟩ := band h2
    have h1 := of_decide_eq_true h1
    subst h1
    obtain ⟨p1, p2⟩ := hr.l c X cx _ h3
    have h5 := l_star h3
    refine PI.mono (RZ.pi_zipA (gl_of cx.sc h2) (cx.mgn _ (by decide)) p1 (star_of h5) (backTo_any (any_tail h5 (p2 _)))) fun σ H R ⟨w, st, env, ok, er, h⟩ => ?_
    refine bL cx.mono r ok er h fun evs st1 q vs H1 w1 le1 ok1 r1 hl => ?_
    unfold zpK at q
    split at q
    · obtain ⟨v, u, rfl, rv, ru⟩ := evreps2 r1
      obtain ⟨a, xs, rfl, f, rs⟩ := lst_d rv
      obtain ⟨b, ys, rfl, f2, rs2⟩ := lst_d ru
      exact ⟨a, b, xs, ys, rfl, .inl ⟨f.sq, f2.sq, q _ H1 w1 le1 ok1 (Ys.zip f rs f2 rs2)⟩⟩
    · obtain ⟨v, u, rfl, rv, ru⟩ := evreps2 r1
      obtain ⟨a, xs, rfl, f, rs⟩ := tup_d rv
      obtain ⟨b, ys, rfl, f2, rs2⟩ := tup_d ru
      exact ⟨a, b, xs, ys, rfl, .inr ⟨f.sq, f2.sq, q _ H1 w1 le1 ok1 (Ys.zipT f rs f2 rs2)⟩⟩
    · exact q.elim
  · cases h) (fun _ => rfl)
/-! ### starred displays -/
structure SndLs (tb : Tb) (ie : IE) : Prop where
  ls : ∀ c X, CxOk tb c X → ∀ es, (ck ie c).ls es = true → PA X es (TL0 X.K tb ie)
theorem EVReps.app {K : PySem.W.Frag} {H : Hp} {w : Wd} {st : Sto} : ∀ {vs us : List V} {ds : List D} {es : List EV}, Reps K H (w.M st) vs ds → EVReps K H w st us es → EVReps K H w st (vs ++ us) (ds.map EV.d ++ es)
  | _, _, _, _, .nil, r => r
  | _, _, _, _, .cons (d := d) a b, r => .cons (d := .d d) a (EVReps.app b r)
theorem EVReps.len {K : PySem.W.Frag} {H : Hp} {w : Wd} {st : Sto} {vs : List V} {es : List EV} (r : EVReps K H w st vs es) : vs.length = es.length := by
  induction r with
  | nil => rfl
  | cons _ _ ih => rw [List.length_cons, List.length_cons, ih]
theorem ls_nil : SndLs tb .nil := ⟨fun c X cx es h => by
  have h : es.isEmpty = true := h
  cases es with
  | nil => exact PA.mono pa_nil fun σ H Q ⟨w, st, env, ok, er, h⟩ => h [] H w Le.refl ok .nil
  | cons _ _ => cases h⟩
theorem ls_cons {a r : IE} (ha : Snd tb a) (hr : SndLs tb r) : SndLs tb (.cons a r) := ⟨fun c X cx es h => by
  cases es with
  | nil => exact ff h
  | cons e es =>
    have h : (notStar e && ((ck a c).e e && (ck r c).ls es)) = true := h
    obtain ⟨h1, hA⟩ := band h
    obtain ⟨h2, h3⟩ := band hA
    refine PA.mono (pa_cons (ha.e c X cx e h2) (hr.ls c X cx es h3) (star_of h1)) fun σ H Q ⟨w, st, env, ok, er, h⟩ => ?_
    exact bE cx.mono a ok er h fun ev st1 h1 v H1 w1 le1 ok1 r1 => ⟨w1, st1, env, ok1, er.le le1, (sem_mono cx.mono r).l _ _ _ _ (fun evs st2 q vs H2 w2 le2 ok2 r2 => q (v :: vs) H2 w2 (le1.trans le2) ok2 (.cons (r1.le le2) r2)) h1⟩⟩
theorem ls_scons {a r : IE} (ha : Snd tb a) (hr : SndLs tb r) : SndLs tb (.scons a r) := ⟨fun c X cx es h => by
  have key : ∃ e p es', es = .Starred e p :: es' ∧ (ck a c).e e = true ∧ (ck r c).ls es' = true := by
    cases es with
    | nil => exact ff h
    | cons e es =>
      cases e with
      | Starred e p =>
        obtain ⟨h1, h2⟩ := band (show ((ck a c).e e && (ck r c).ls es) = true from h)
        exact ⟨e, p, es, rfl, h1, h2⟩
      | _ => exact ff h
  obtain ⟨e, p, es', rfl, h1, h2⟩ := key
  refine PA.mono (StX.pa_star (ha.e c X cx e h1) (hr.ls c X cx es' h2)) fun σ H Q ⟨w, st, env, ok, er, h⟩ => ?_
  refine bE cx.mono a ok er h fun ev st1 h1 v H1 w1 le1 ok1 r1 => ?_
  obtain ⟨b, ds, q, xs, rfl, g1, g2, g3, g4⟩ := seq_rep ok1 r1 h1
  refine ⟨q, xs, rfl, ?_, w1, st1, env, ok1, er.le le1, (sem_mono cx.mono r).l _ _ _ _ (fun evs st2 k vs H2 w2 le2 ok2 r2 => k (xs ++ vs) H2 w2 (le1.trans le2) ok2 (EVReps.app (g3.le le2) r2)) g4⟩
  cases b with
  | true => exact .inr (g1 rfl)
  | false => exact .inl (g2 rfl).1⟩
theorem lineK {n : Nat} (h : n ≤ 1000000) : n ≤ sizeLine := by rw [sizeLine_eq]; omega
theorem snd_tupS {r : IE} (hr : SndLs tb r) : Snd tb (.tupS r) := sndE (f := fun c e => match e with
      | .Tuple es _ _ => (ck r c).ls es
      | _ => false) (fun c X cx e h => by
  split at h
  · refine PE.mono (pe_tup (hr.ls c X cx _ h)) fun σ H Q ⟨w, st, env, ok, er, h⟩ => ?_
    refine ⟨w, st, env, ok, er, (sem_mono cx.mono r).l _ _ _ _ (fun evs st1 q vs H1 w1 le1 ok1 r1 => ?_) h⟩
    obtain ⟨q0, q⟩ := q
    obtain ⟨ds, rs, q⟩ := allD_rep r1 q
    refine ⟨by rw [r1.len]; exact lineK q0, fun p n => ?_⟩
    obtain ⟨a, b, d⟩ := new_tup n ok1 rs
    exact q _ _ w1 (le1.trans a) b d
  · cases h) (fun _ => rfl)
theorem snd_lstS (kd : Nat) {r : IE} (hr : SndLs tb r) : Snd tb (.lstS kd r) := sndE (f := fun c e => match e with
      | .List es _ => (ck r c).ls es
      | _ => false) (fun c X cx e h => by
  split at h
  · refine PE.mono (pe_lst (hr.ls c X cx _ h)) fun σ H Q ⟨w, st, env, ok, er, h⟩ => ?_
    refine ⟨w, st, env, ok, er, (sem_mono cx.mono r).l _ _ _ _ (fun evs st1 q vs H1 w1 le1 ok1 r1 => ?_) h⟩
    obtain ⟨q0, q⟩ := q
    obtain ⟨ds, rs, q⟩ := allD_rep r1 q
    refine ⟨by rw [r1.len]; exact lineK q0, fun p n => ?_⟩
    obtain ⟨ev, w', st', a, b, d, q⟩ := new_lst n ok1 rs q
    exact q _ _ w' (le1.trans a) b d
  · cases h) (fun _ => rfl)
/-! ### isinstance -/
def tyS : Ty → String
  | .tuple => "tuple" | .list => "list" | .str => "str" | .int => "int" | .bool => "bool"
theorem kb_non (t : Ty) : kitB "NoneType" (tyS t) = some (isiD .none t) := by cases t <;> decide +kernel
theorem kb_bl (b : Bool) (t : Ty) : kitB "bool" (tyS t) = some (isiD (.bool b) t) := by
  have h : kitB "bool" (tyS t) = some (isiD (.bool true) t) := by cases t <;> decide +kernel
  rw [h]
  cases t <;> rfl
theorem kb_int (i : Int) (t : Ty) : kitB "int" (tyS t) = some (isiD (.int i) t) := by
  have h : kitB "int" (tyS t) = some (isiD (.int 0) t) := by cases t <;> decide +kernel
  rw [h]
  cases t <;> rfl
theorem kb_str (x : Str) (t : Ty) : kitB "str" (tyS t) = some (isiD (.str x) t) := by
  have h : kitB "str" (tyS t) = some (isiD (.str Str.empty) t) := by cases t <;> decide +kernel
  rw [h]
  cases t <;> rfl
theorem kb_lst (x : List D) (t : Ty) : kitB "list" (tyS t) = some (isiD (.list x) t) := by
  have h : kitB "list" (tyS t) = some (isiD (.list []) t) := by cases t <;> decide +kernel
  rw [h]
  cases t <;> rfl
theorem kb_tup (x : List D) (t : Ty) : kitB "tuple" (tyS t) = some (isiD (.tuple x) t) := by
  have h : kitB "tuple" (tyS t) = some (isiD (.tuple []) t) := by cases t <;> decide +kernel
  rw [h]
  cases t <;> rfl
theorem rep_ty {K : PySem.W.Frag} {H : Hp} {M : Addr → Prop} {v : V} {d : D} (r : Rep K H M v d) (t : Ty) : ∃ n : String, TyX K H v (.type n) ∧ kitB n (tyS t) = some (isiD d t) := by
  cases r with
  | non => exact ⟨"NoneType", .base .non, kb_non t⟩
  | bl b => exact ⟨"bool", .base (.bl b), kb_bl b t⟩
  | int i => exact ⟨"int", .base (.int i), kb_int i t⟩
  | str x => exact ⟨"str", .base (.str x), kb_str x t⟩
  | lst e m rs => exact ⟨"list", .base (.lst e), kb_lst _ t⟩
  | tup f rs =>
    refine ⟨"tuple", ?_, kb_tup _ t⟩
    rcases f with ⟨f, _⟩ | ⟨o, its, n, e, c, _⟩
    · rcases f with f | ⟨o, f⟩
      · exact .base (.tup f)
      · exact .fTuple f
    · exact .kTuple e c
theorem snd_isi {a : IE} (t : Ty) (ha : Snd tb a) : Snd tb (.isi a t) := by
  have go : ∀ {c : Ctx} {X : Cx}, CxOk tb c X → ∀ e, (match e with
      | .Call (.Name f _) [x, .Name y _] [] _ => decide (f = "isinstance") && (decide (y = tyN t) && (glB c.sc f && (glB c.sc y && (notStar x && (ck a c).e x))))
      | _ => false) = true → PE X e (tCB (rIsi X.K) (tCons (TEs X.K tb a) (tCons (tC (.ty (tyS t))) tNil))) := fun {c X} cx e h => by
    split at h
    · obtain ⟨h1, hA⟩ := band h
      obtain ⟨h2, hB⟩ := band hA
      obtain ⟨h3, hC⟩ := band hB
      obtain ⟨h4, hD⟩ := band hC
      obtain ⟨h5, h6⟩ := band hD
      have h1 := of_decide_eq_true h1
      have h2 := of_decide_eq_true h2
      subst h1 h2
      have pt : ∀ pos, PE X (.Name (tyN t) pos) (tC (.ty (tyS t))) := fun pos => by
        cases t <;> exact pe_bltn (gl_of cx.sc h4) (cx.mgn _ (by decide)) (u := .type _) (by decide +kernel) rfl (by decide) (by decide)
      exact pe_callB call_isi (gl_of cx.sc h3) (cx.mgn _ (by decide)) (by decide +kernel) (pa_cons (ha.e c X cx _ h6) (pa_cons (pt _) pa_nil rfl) (star_of h5)) (by decide) (by decide) (star_of h5) rfl
    · cases h
  have fin : ∀ {c : Ctx} {X : Cx}, CxOk tb c X → ∀ σ H Q, TEs X.K tb (.isi a t) σ H Q → tCB (rIsi X.K) (tCons (TEs X.K tb a) (tCons (tC (.ty (tyS t))) tNil)) σ H Q := fun {c X} cx σ H Q ⟨w, st, env, ok, er, h⟩ =>
    bE cx.mono a ok er h fun ev st1 h1 v H1 w1 le1 ok1 r1 => by
      obtain ⟨d, rd, q⟩ := dE_rep r1 h1
      obtain ⟨n, ty, hk⟩ := rep_ty rd t
      exact ⟨v, .ty (tyS t), .type n, .type (tyS t), _, rfl, .ty _, ty, kit_ty hk, q _ H1 w1 le1 ok1 (Rep.bl _)⟩
  refine sndB (f := fun c e => match e with
      | .Call (.Name f _) [x, .Name y _] [] _ => decide (f = "isinstance") && (decide (y = tyN t) && (glB c.sc f && (glB c.sc y && (notStar x && (ck a c).e x))))
      | _ => false) (fun c X cx e h => PE.mono (go cx e h) (fin cx)) (fun c X cx e h => ?_) (fun _ => rfl)
  have hp : plainT e = true := by
    split at h
    · rfl
    · cases h
  refine PT.mono (pt_truth (go cx e h) (plainT_of hp)) fun σ H Q ⟨w, st, env, ok, er, h⟩ => ?_
  exact bE cx.mono a ok er h fun ev st1 h1 v H1 w1 le1 ok1 r1 => by
    obtain ⟨d, rd, q⟩ := dE_rep r1 h1
    obtain ⟨n, ty, hk⟩ := rep_ty rd t
    exact ⟨v, .ty (tyS t), .type n, .type (tyS t), _, rfl, .ty _, ty, kit_ty hk, _, rfl, q H1 w1 le1 ok1⟩
/-! ### sorted(set(..)) -/
theorem reps_strs {K : PySem.W.Frag} {H : Hp} {M : Addr → Prop} : ∀ {ts : List Str} {vs : List V}, Reps K H M vs (ts.map PyData.str) → vs = ts.map V.str
  | [], _, .nil => rfl
  | t :: ts, _, .cons (.str _) r => by rw [reps_strs r]; rfl
theorem strs_reps {K : PySem.W.Frag} {H : Hp} {M : Addr → Prop} : ∀ (ts : List Str), Reps K H M (ts.map V.str) (ts.map PyData.str)
  | [] => .nil
  | t :: ts => .cons (.str t) (strs_reps ts)
theorem snd_srs (kd : Nat) {a : IE} (ha : Snd tb a) : Snd tb (.srs kd a) := sndE (f := fun c e => match e with
      | .Call (.Name f _) [.Call (.Name g _) [x] [] _] [] _ => decide (f = "sorted") && (decide (g = "set") && (glB c.sc f && (glB c.sc g && (notStar x && (ck a c).e x))))
      | _ => false) (fun c X cx e h => by
  split at h
  · obtain ⟨h1, hA⟩ := band h
    obtain ⟨h2, hB⟩ := band hA
    obtain ⟨h3, hC⟩ := band hB
    obtain ⟨h4, hD⟩ := band hC
    obtain ⟨h5, h6⟩ := band hD
    have h1 := of_decide_eq_true h1
    have h2 := of_decide_eq_true h2
    subst h1 h2
    refine PE.mono (pe_callB (cr_sortedSS cx.xo.calm) (gl_of cx.sc h3) (cx.mgn _ (by decide)) (by decide +kernel)
      (pa_cons (pe_callTy (cr_setST cx.xo.calm) (gl_of cx.sc h4) (cx.mgn _ (by decide)) (by decide +kernel) (pa_cons (ha.e c X cx _ h6) pa_nil (star_of h5)) (by decide) (by decide) (star_of h5) rfl) pa_nil rfl) (by decide) (by decide) rfl rfl)
      fun σ H Q ⟨w, st, env, ok, er, h⟩ => ?_
    refine bE cx.mono a ok er h fun ev st1 h1 v H1 w1 le1 ok1 r1 => ?_
    unfold srsK at h1
    split at h1
    · obtain ⟨ts, ⟨rfl, h64⟩, q⟩ := h1
      cases r1 with
      | lst hl nm rs =>
        have ev := reps_strs rs
        subst ev
        refine ⟨_, ts, rfl, .inl (SqL.of hl), h64, fun p m hm np => ⟨p, _, m, rfl, upd_same, by omega, fun ns p2 s1 s2 s3 s4 np2 => ?_⟩⟩
        have le2 := Le.fresh (o := SetSO X.prog X.w p (fun k => ts.any (· == k)) m) np ok1
        have ok2 := WOk.fresh (o := SetSO X.prog X.w p (fun k => ts.any (· == k)) m) np ok1
        obtain ⟨ev, w', st', b1, b2, b3, q2⟩ := new_lst np2 ok2 (strs_reps ns) (q ns ⟨s1, s2, fun t => (s3 t).trans (by simp)⟩)
        exact q2 _ _ w' ((le1.trans le2).trans b1) b2 b3
    · obtain ⟨ts, ⟨rfl, h64⟩, q⟩ := h1
      cases r1 with
      | tup hl rs =>
        have ev := reps_strs rs
        subst ev
        refine ⟨_, ts, rfl, .inr hl.sq, h64, fun p m hm np => ⟨p, _, m, rfl, upd_same, by omega, fun ns p2 s1 s2 s3 s4 np2 => ?_⟩⟩
        have le2 := Le.fresh (o := SetSO X.prog X.w p (fun k => ts.any (· == k)) m) np ok1
        have ok2 := WOk.fresh (o := SetSO X.prog X.w p (fun k => ts.any (· == k)) m) np ok1
        obtain ⟨ev, w', st', b1, b2, b3, q2⟩ := new_lst np2 ok2 (strs_reps ns) (q ns ⟨s1, s2, fun t => (s3 t).trans (by simp)⟩)
        exact q2 _ _ w' ((le1.trans le2).trans b1) b2 b3
    · exact h1.elim
  · cases h) (fun _ => rfl)
/-! ### sorted(a list of texts) -/
theorem snd_srl (kd : Nat) {a : IE} (ha : Snd tb a) : Snd tb (.srl kd a) := sndE (f := fun c e => match e with
      | .Call (.Name f _) [x] [] _ => decide (f = "sorted") && (glB c.sc f && (notStar x && (ck a c).e x))
      | _ => false) (fun c X cx e h => by
  split at h
  · obtain ⟨h1, hA⟩ := band h
    obtain ⟨h3, hC⟩ := band hA
    obtain ⟨h5, h6⟩ := band hC
    have h1 := of_decide_eq_true h1
    subst h1
    refine PE.mono (pe_callB cr_sortedLS (gl_of cx.sc h3) (cx.mgn _ (by decide)) (by decide +kernel)
      (pa_cons (ha.e c X cx _ h6) pa_nil (star_of h5)) (by decide) (by decide) (star_of h5) rfl)
      fun σ H Q ⟨w, st, env, ok, er, h⟩ => ?_
    refine bE cx.mono a ok er h fun ev st1 h1 v H1 w1 le1 ok1 r1 => ?_
    unfold srlK at h1
    split at h1
    · obtain ⟨ts, ⟨rfl, h64⟩, q⟩ := h1
      cases r1 with
      | lst hl nm rs =>
        have ev := reps_strs rs
        subst ev
        refine ⟨_, ts, rfl, SqL.of hl, h64, fun ns p2 s1 s2 np2 => ?_⟩
        obtain ⟨ev, w', st', b1, b2, b3, q2⟩ := new_lst np2 ok1 (strs_reps ns) (q ns ⟨s1, s2⟩)
        exact q2 _ _ w' (le1.trans b1) b2 b3
    · exact h1.elim
  · cases h) (fun _ => rfl)
/-! ### sorted ints -/
theorem ints_repsN {K : PySem.W.Frag} {H : Hp} {M : Addr → Prop} : ∀ (ts : List Int), Reps K H M (ts.map V.int) (ts.map PyData.int)
  | [] => .nil
  | t :: ts => .cons (.int t) (ints_repsN ts)
theorem snd_sri (kd : Nat) {a : IE} (ha : Snd tb a) : Snd tb (.sri kd a) := sndE (f := fun c e => match e with
      | .Call (.Name f _) [x] [] _ => decide (f = "sorted") && (glB c.sc f && (notStar x && (ck a c).e x))
      | _ => false) (fun c X cx e h => by
  split at h
  · obtain ⟨h1, hA⟩ := band h
    obtain ⟨h3, hC⟩ := band hA
    obtain ⟨h5, h6⟩ := band hC
    have h1 := of_decide_eq_true h1
    subst h1
    refine PE.mono (pe_callB cr_sortedI (gl_of cx.sc h3) (cx.mgn _ (by decide)) (by decide +kernel)
      (pa_cons (ha.e c X cx _ h6) pa_nil (star_of h5)) (by decide) (by decide) (star_of h5) rfl)
      fun σ H Q ⟨w, st, env, ok, er, h⟩ => ?_
    refine bE cx.mono a ok er h fun ev st1 h1 v H1 w1 le1 ok1 r1 => ?_
    unfold sriK at h1
    split at h1
    · obtain ⟨ts, rfl, q⟩ := h1
      cases r1 with
      | lst hl nm rs =>
        have ev := reps_ints rs
        subst ev
        refine ⟨_, ts, rfl, SqL.of hl, fun ns p2 s1 s2 np2 => ?_⟩
        obtain ⟨ev, w', st', b1, b2, b3, q2⟩ := new_lst np2 ok1 (ints_repsN ns) (q ns ⟨s1, s2⟩)
        exact q2 _ _ w' (le1.trans b1) b2 b3
    · exact h1.elim
  · cases h) (fun _ => rfl)
/-! ### sorted alike data; from the end on -/
theorem reps_zip {K : PySem.W.Frag} {H : Hp} {M : Addr → Prop} : ∀ {vs : List V} {ds : List D}, Reps K H M vs ds → ∀ p ∈ vs.zip ds, Rep K H M p.1 p.2
  | _, _, .nil, p, hp => by cases hp
  | _, _, .cons r rs, p, hp => by
    rcases List.mem_cons.mp hp with rfl | hp
    · exact r
    · exact reps_zip rs p hp
theorem reps_pairs {K : PySem.W.Frag} {H : Hp} {M : Addr → Prop} : ∀ {ps : List (V × D)}, (∀ p ∈ ps, Rep K H M p.1 p.2) → Reps K H M (ps.map Prod.fst) (ps.map Prod.snd)
  | [], _ => .nil
  | p :: ps, h => .cons (h p List.mem_cons_self) (reps_pairs fun q hq => h q (List.mem_cons_of_mem _ hq))
theorem Reps.reverse {K : PySem.W.Frag} {H : Hp} {M : Addr → Prop} : ∀ {vs : List V} {ds : List D}, Reps K H M vs ds → Reps K H M vs.reverse ds.reverse
  | _, _, .nil => .nil
  | _, _, .cons r rs => by
    rw [List.reverse_cons, List.reverse_cons]
    exact (Reps.reverse rs).append (.cons r .nil)
theorem srt_reps {K : PySem.W.Frag} {H : Hp} {M : Addr → Prop} {vs : List V} {ds : List D} (rs : Reps K H M vs ds) : Reps K H M (((vs.zip ds).mergeSort (PySem.W.dataLe false Prod.snd)).map Prod.fst) (ds.mergeSort (PySem.W.dataLe false id)) := by
  have e := List.map_mergeSort (r := PySem.W.dataLe false (Prod.snd : V × D → D)) (s := PySem.W.dataLe false id) (f := Prod.snd) (l := vs.zip ds) fun a _ b _ => rfl
  rw [SrtD.zip_snd rs.length] at e
  rw [← e]
  exact reps_pairs fun q hq => reps_zip rs q (List.mem_mergeSort.mp hq)
theorem snd_srd (kd : Nat) {a : IE} (ha : Snd tb a) : Snd tb (.srd kd a) := sndE (f := fun c e => match e with
      | .Call (.Name f _) [x] [] _ => decide (f = "sorted") && (glB c.sc f && (notStar x && (ck a c).e x))
      | _ => false) (fun c X cx e h => by
  split at h
  · obtain ⟨h1, hA⟩ := band h
    obtain ⟨h3, hC⟩ := band hA
    obtain ⟨h5, h6⟩ := band hC
    have h1 := of_decide_eq_true h1
    subst h1
    refine PE.mono (pe_callB (SrtD.cr_sortedD cx.xo.hu) (gl_of cx.sc h3) (cx.mgn _ (by decide)) (by decide +kernel)
      (pa_cons (ha.e c X cx _ h6) pa_nil (star_of h5)) (by decide) (by decide) (star_of h5) rfl)
      fun σ H Q ⟨w, st, env, ok, er, h⟩ => ?_
    refine bE cx.mono a ok er h fun ev st1 h1 v H1 w1 le1 ok1 r1 => ?_
    unfold srdK at h1
    split at h1
    · obtain ⟨hd, q⟩ := h1
      cases r1 with
      | lst hl nm rs =>
        refine ⟨_, _, _, rfl, SqL.of hl, Reps.dp rs, hd, fun p np => ?_⟩
        have rs' := srt_reps rs
        obtain ⟨ev, w', st', b1, b2, b3, q2⟩ := new_lst np ok1 rs' q
        exact q2 _ _ w' (le1.trans b1) b2 b3
    · exact h1.elim
  · cases h) (fun _ => rfl)
theorem snd_rev (kd : Nat) {a : IE} (ha : Snd tb a) : Snd tb (.rev kd a) := sndE (f := fun c e => match e with
      | .Subscript x (.Slice none none (some (.UnaryOp .USub (.Constant (.int 1) _ _) _)) _) _ => (ck a c).e x
      | _ => false) (fun c X cx e h => by
  split at h
  · refine PE.mono (RevT.pe_rev (ha.e c X cx _ h)) fun σ H Q ⟨w, st, env, ok, er, h⟩ => ?_
    refine bE cx.mono a ok er h fun ev st1 h1 v H1 w1 le1 ok1 r1 => ?_
    unfold revK at h1
    split at h1
    · cases (show Rep _ _ _ v _ from r1) with
      | tup f rs =>
        refine ⟨_, _, rfl, .inr ⟨f.sq, fun p n => ?_⟩⟩
        obtain ⟨x, y, z⟩ := new_tup n ok1 (Reps.reverse rs)
        exact h1 _ _ w1 (le1.trans x) y z
    · rename_i ht
      obtain ⟨b, ds, p0, xs, rfl, g1, g2, g3, g4⟩ := seq_rep ok1 r1 h1
      have hb : b = true := by
        cases b with
        | true => rfl
        | false => exact absurd (g2 rfl).2 (ht _)
      refine ⟨p0, xs, rfl, .inl ⟨g1 hb, fun p n => ?_⟩⟩
      obtain ⟨ev', w', st', x, y, z, q⟩ := new_lst n ok1 (Reps.reverse g3) g4
      exact q _ _ w' (le1.trans x) y z
  · cases h) (fun _ => rfl)
theorem snd_ssi (kd : Nat) {a : IE} (ha : Snd tb a) : Snd tb (.ssi kd a) := sndE (f := fun c e => match e with
      | .Call (.Name f _) [.Call (.Name g _) [x] [] _] [] _ => decide (f = "sorted") && (decide (g = "set") && (glB c.sc f && (glB c.sc g && (notStar x && (ck a c).e x))))
      | _ => false) (fun c X cx e h => by
  split at h
  · obtain ⟨h1, hA⟩ := band h
    obtain ⟨h2, hB⟩ := band hA
    obtain ⟨h3, hC⟩ := band hB
    obtain ⟨h4, hD⟩ := band hC
    obtain ⟨h5, h6⟩ := band hD
    have h1 := of_decide_eq_true h1
    have h2 := of_decide_eq_true h2
    subst h1 h2
    refine PE.mono (pe_callB (cr_sortedSet cx.xo.calm) (gl_of cx.sc h3) (cx.mgn _ (by decide)) (by decide +kernel)
      (pa_cons (pe_callTy (cr_setSI cx.xo.calm) (gl_of cx.sc h4) (cx.mgn _ (by decide)) (by decide +kernel) (pa_cons (ha.e c X cx _ h6) pa_nil (star_of h5)) (by decide) (by decide) (star_of h5) rfl) pa_nil rfl) (by decide) (by decide) rfl rfl)
      fun σ H Q ⟨w, st, env, ok, er, h⟩ => ?_
    refine bE cx.mono a ok er h fun ev st1 h1 v H1 w1 le1 ok1 r1 => ?_
    unfold ssiK at h1
    split at h1
    · obtain ⟨ts, ⟨rfl, h64⟩, q⟩ := h1
      cases r1 with
      | lst hl nm rs =>
        have ev := reps_ints rs
        subst ev
        refine ⟨_, ts, rfl, SqL.of hl, h64, fun p m hm np => ⟨p, _, m, rfl, upd_same, by omega, fun ns p2 s1 s2 s3 np2 => ?_⟩⟩
        have le2 := Le.fresh (o := SetO X.w p (fun k => ts.any (· == k)) m) np ok1
        have ok2 := WOk.fresh (o := SetO X.w p (fun k => ts.any (· == k)) m) np ok1
        obtain ⟨ev, w', st', b1, b2, b3, q2⟩ := new_lst np2 ok2 (ints_repsN ns) (q ns ⟨s1, fun t => (s2 t).trans (by simp)⟩)
        exact q2 _ _ w' ((le1.trans le2).trans b1) b2 b3
    · exact h1.elim
  · cases h) (fun _ => rfl)
/-! ### a range as a list or a tuple -/
theorem rgV_upto {K : PySem.W.Frag} {H : Hp} {M : Addr → Prop} (n : Int) : Reps K H M (rgV 0 n) (upto 0 n.toNat) := by
  have e1 : rgV 0 n = ((List.range n.toNat).map fun i => (0 : Int) + (i : Nat)).map V.int := by
    unfold rgV
    rw [List.map_map, Int.sub_zero]
    rfl
  have e2 : upto 0 n.toNat = ((List.range n.toNat).map fun i => (0 : Int) + (i : Nat)).map PyData.int := by
    unfold upto
    rw [List.map_map]
    rfl
  rw [e1, e2]
  exact ints_repsN _
theorem snd_rgv (tp : Bool) (kd : Nat) {a : IE} (ha : Snd tb a) : Snd tb (.rgv tp kd a) := sndE (f := fun c e => match e with
      | .Call (.Name f _) [.Call (.Name g _) [x] [] _] [] _ => decide (f = if tp = true then "tuple" else "list") && (decide (g = "range") && (glB c.sc f && (glB c.sc g && (notStar x && (ck a c).e x))))
      | _ => false) (fun c X cx e h => by
  split at h
  · rename_i f pf g pg x pg2 pos
    obtain ⟨h1, hA⟩ := band h
    obtain ⟨h2, hB⟩ := band hA
    obtain ⟨h3, hC⟩ := band hB
    obtain ⟨h4, hD⟩ := band hC
    obtain ⟨h5, h6⟩ := band hD
    have h1 := of_decide_eq_true h1
    have h2 := of_decide_eq_true h2
    subst h2
    have prg := prg_1 (p := pg) (pos := pg2) (gl_of cx.sc h4) (cx.mgn _ (by decide)) (ha.e c X cx _ h6) (star_of h5)
    cases tp with
    | true =>
      have h1 : f = "tuple" := h1
      subst h1
      refine PE.mono (pe_tupRg cx.xo.calm (gl_of cx.sc h3) (cx.mgn _ (by decide)) prg rfl) fun σ H Q ⟨w, st, env, ok, er, h⟩ => ?_
      have h : (sem tb a).e env st fun y st1 => rgvK true kd y st1 (PostW X.K H w st Q) := h
      refine bE cx.mono a ok er h fun ev st1 h1 v H1 w1 le1 ok1 r1 => ?_
      cases ev with
      | d y =>
        cases y with
        | int n =>
          obtain ⟨⟨b1, b2⟩, q⟩ := h1
          cases (show Rep _ _ _ v _ from r1)
          refine ⟨n, rfl, ⟨by omega, by omega, by omega, by omega, by omega⟩, fun p np => ?_⟩
          obtain ⟨l, o, rr⟩ := new_tup np ok1 (rgV_upto n)
          exact q _ _ w1 (le1.trans l) o rr
        | _ => exact h1.elim
      | _ => exact h1.elim
    | false =>
      have h1 : f = "list" := h1
      subst h1
      refine PE.mono (pe_listRg cx.xo.calm (gl_of cx.sc h3) (cx.mgn _ (by decide)) prg rfl) fun σ H Q ⟨w, st, env, ok, er, h⟩ => ?_
      have h : (sem tb a).e env st fun y st1 => rgvK false kd y st1 (PostW X.K H w st Q) := h
      refine bE cx.mono a ok er h fun ev st1 h1 v H1 w1 le1 ok1 r1 => ?_
      cases ev with
      | d y =>
        cases y with
        | int n =>
          obtain ⟨⟨b1, b2⟩, q⟩ := h1
          cases (show Rep _ _ _ v _ from r1)
          refine ⟨n, rfl, ⟨by omega, by omega, by omega, by omega, by omega⟩, fun p np => ?_⟩
          obtain ⟨ev, w', st', c1, c2, c3, q2⟩ := new_lst np ok1 (rgV_upto n) q
          exact q2 _ _ w' (le1.trans c1) c2 c3
        | _ => exact h1.elim
      | _ => exact h1.elim
  · cases h) (fun _ => rfl)
/-! ### is -/
theorem isBK_d {neg : Bool} {x y : EV} {k : Bool → Prop} (h : isBK neg x y k) : ∃ i j, x = .d (.bool i) ∧ y = .d (.bool j) ∧ k (if neg = true then !decide (i = j) else decide (i = j)) := by
  unfold isBK at h
  split at h
  · split at h <;> exact ⟨_, _, rfl, rfl, h⟩
  · exact h.elim
theorem snd_isB (neg : Bool) {a b : IE} (ha : Snd tb a) (hb : Snd tb b) : Snd tb (.isB neg a b) := by
  have go : ∀ {c : Ctx} {X : Cx}, CxOk tb c X → ∀ σ H (Q : V → Hp → Prop) (k : Bool → Sto → Prop) w st env, WOk X.K H w st → EnvRep X.K H w st σ env → (sem tb (.isB neg a b)).t env st k → (∀ z st' H' w', k z st' → Le H w st H' w' st' → WOk X.K H' w' st' → Q (.bl z) H') →
      tOp (if neg = true then rNotB else rIsB) (TEs X.K tb a) (TEs X.K tb b) σ H Q := fun {c X} cx σ H Q k w st env ok er h hk => by
    have h : (sem tb a).e env st fun x st => (sem tb b).e env st fun y st => isBK neg x y fun z => k z st := h
    refine bE cx.mono a ok er h fun ex st1 h1 v1 H1 w1 le1 ok1 r1 => bE cx.mono b ok1 (er.le le1) h1 fun ey st2 h2 v2 H2 w2 le2 ok2 r2 => ?_
    obtain ⟨i, j, rfl, rfl, q⟩ := isBK_d h2
    cases (show Rep _ _ _ v1 _ from r1)
    cases (show Rep _ _ _ v2 _ from r2)
    have := hk _ _ H2 w2 q (le1.trans le2) ok2
    cases neg with
    | true => exact ⟨i, j, rfl, rfl, this⟩
    | false => exact ⟨i, j, rfl, rfl, this⟩
  refine sndB (f := fun c e => isBf neg (ck a c).e (ck b c).e e) (fun c X cx e h => ?_) (fun c X cx e h => ?_) (fun _ => rfl)
  · unfold isBf at h
    split at h
    · obtain ⟨h0, h⟩ := band h
      obtain ⟨h1, h2⟩ := band h
      obtain ⟨h2, h3⟩ := band h2
      have e : neg = false := by simpa using h0
      subst e
      exact PE.mono (pe_cmpR op_isBl (ha.e c X cx _ h1) (hb.e c X cx _ h3) (marks_of h2)) fun σ H Q ⟨w, st, env, ok, er, h⟩ =>
        go cx σ H Q _ w st env ok er h fun z st' H' w' hz le ok' => hz _ H' w' le ok' (Rep.bl _)
    · obtain ⟨h0, h⟩ := band h
      obtain ⟨h1, h2⟩ := band h
      obtain ⟨h2, h3⟩ := band h2
      subst h0
      exact PE.mono (pe_cmpR op_notBl (ha.e c X cx _ h1) (hb.e c X cx _ h3) (marks_of h2)) fun σ H Q ⟨w, st, env, ok, er, h⟩ =>
        go cx σ H Q _ w st env ok er h fun z st' H' w' hz le ok' => hz _ H' w' le ok' (Rep.bl _)
    · cases h
  · unfold isBf at h
    split at h
    · obtain ⟨h0, h⟩ := band h
      obtain ⟨h1, h2⟩ := band h
      obtain ⟨h2, h3⟩ := band h2
      have e : neg = false := by simpa using h0
      subst e
      exact PT.mono (pt_cmpR op_isBl (ha.e c X cx _ h1) (hb.e c X cx _ h3) (marks_of h2)) fun σ H Q ⟨w, st, env, ok, er, h⟩ =>
        go cx σ H _ _ w st env ok er h fun z st' H' w' hz le ok' => ⟨_, rfl, hz H' w' le ok'⟩
    · obtain ⟨h0, h⟩ := band h
      obtain ⟨h1, h2⟩ := band h
      obtain ⟨h2, h3⟩ := band h2
      subst h0
      exact PT.mono (pt_cmpR op_notBl (ha.e c X cx _ h1) (hb.e c X cx _ h3) (marks_of h2)) fun σ H Q ⟨w, st, env, ok, er, h⟩ =>
        go cx σ H _ _ w st env ok er h fun z st' H' w' hz le ok' => ⟨_, rfl, hz H' w' le ok'⟩
    · cases h
/-! ### calls that only look -/
def noM : Addr → Prop := fun _ => False
def w0 : Wd := ⟨[], [], noM⟩
theorem w0_M {a : Addr} (h : w0.M ⟨[], []⟩ a) : False := by
  rcases h with h | ⟨n, xs, h, _⟩ | h
  · cases h
  · simp [w0] at h
  · exact h
theorem w0_ok {K : PySem.W.Frag} {H : Hp} : WOk K H w0 ⟨[], []⟩ := ⟨rfl, rfl, fun n xs h => by simp at h, fun n xs h => by simp at h, fun n a h => by simp at h, by show ([] ++ [] : List Addr).Nodup; simp, fun a h => h.elim⟩
theorem WOk.ext {K : PySem.W.Frag} {H H' : Hp} {w : Wd} {st : Sto} (ok : WOk K H w st) (x : ∀ a o, H a = some o → H' a = some o) : WOk K H' w st ∧ Le H w st H' w st := by
  have le : Le H w st H' w st := ⟨rfl, ⟨[], by simp⟩, ⟨[], by simp⟩, fun a o h m => ⟨x a o h, m⟩, fun a h => by
    obtain ⟨⟨o, z⟩, _⟩ := ok.fF a h
    rw [z, x a o z]⟩
  refine ⟨⟨ok.lg, ok.ll, fun n xs h => ?_, fun n xs h => ?_, fun n a h e => ?_, ok.nd, fun a h => ?_⟩, le⟩
  · obtain ⟨a, vs, e, z, r⟩ := ok.g n xs h
    exact ⟨a, vs, e, x _ _ z, r.le le⟩
  · obtain ⟨a, vs, e, z, r⟩ := ok.l n xs h
    exact ⟨a, vs, e, x _ _ z, r.le le⟩
  · obtain ⟨o, z⟩ := ok.fz n a h e
    exact ⟨o, x _ _ z⟩
  · obtain ⟨⟨o, z⟩, q⟩ := ok.fF a h
    exact ⟨⟨o, x _ _ z⟩, q⟩
theorem cont_one {K : PySem.W.Frag} {H : Hp} {w : Wd} {st : Sto} (ok : WOk K H w st) {a : Addr} {vs : List V} {ys : List D} (z : H a = some (.lst vs)) (r : Reps K H (w.M st) vs ys) : Rep K H noM (.ref a) (.list ys) :=
  .lst z (fun h => h.elim) (r.conv fun b o hb _ => ⟨hb, fun q => q⟩)
theorem cont_rep {K : PySem.W.Frag} {H : Hp} {w : Wd} {st : Sto} (ok : WOk K H w st) : ∀ {vs : List V} {evs : List EV} {k : List D → Prop}, EVReps K H w st vs evs → contL st evs k → ∃ ds, Reps K H noM vs ds ∧ k ds
  | _, _, k, .nil, h => ⟨[], .nil, h⟩
  | _, _, k, .cons (d := .d x) r t, h => by
    obtain ⟨ds, a, b⟩ := cont_rep ok t h
    exact ⟨x :: ds, .cons (Rep.conv (fun b o hb _ => ⟨hb, fun q => q⟩) r) a, b⟩
  | _, _, k, .cons (d := .lm n) (ds := evs) r t, h => by
    have h : (match st.l[n]? with
      | some (some ys) => contL st evs fun xs => k (.list ys :: xs)
      | _ => False) := h
    split at h
    · rename_i ys hy
      obtain ⟨ds, a, b⟩ := cont_rep ok t h
      obtain ⟨p, rfl, hp⟩ := r
      obtain ⟨p', us, e, z, q⟩ := ok.l n ys hy
      rw [hp] at e
      cases e
      exact ⟨_, .cons (cont_one ok z q) a, b⟩
    · exact h.elim
  | _, _, k, .cons (d := .gm n) (ds := evs) r t, h => by
    have h : (match st.g[n]? with
      | some ys => contL st evs fun xs => k (.list ys :: xs)
      | none => False) := h
    split at h
    · rename_i ys hy
      obtain ⟨ds, a, b⟩ := cont_rep ok t h
      obtain ⟨p, rfl, hp⟩ := r
      obtain ⟨p', us, e, z, q⟩ := ok.g n ys hy
      rw [hp] at e
      cases e
      exact ⟨_, .cons (cont_one ok z q) a, b⟩
    · exact h.elim
  | _, _, k, .cons (d := .sc ys) r t, h => h.elim
theorem reps_ev {K : PySem.W.Frag} {H : Hp} : ∀ {vs : List V} {ds : List D}, Reps K H noM vs ds → EVReps K H w0 ⟨[], []⟩ vs (ds.map EV.d)
  | _, _, .nil => .nil
  | _, _, .cons r t => .cons (Rep.conv (fun b o hb _ => ⟨hb, fun q => w0_M q⟩) r) (reps_ev t)
theorem atom_rep {K : PySem.W.Frag} {H : Hp} {w w' : Wd} {st st' : Sto} {v : V} {ev : EV} (r : EVRep K H w st v ev) {k : EV → Prop} (h : atomK ev k) : ∃ x, k (.d x) ∧ EVRep K H w' st' v (.d x) := by
  unfold atomK at h
  split at h
  · cases (show Rep _ _ _ v _ from r)
    exact ⟨_, h, Rep.bl _⟩
  · cases (show Rep _ _ _ v _ from r)
    exact ⟨_, h, Rep.int _⟩
  · cases (show Rep _ _ _ v _ from r)
    exact ⟨_, h, Rep.str _⟩
  · cases (show Rep _ _ _ v _ from r)
    exact ⟨_, h, Rep.non⟩
  · exact h.elim
theorem look_ext {H H' : Hp} {w' : Wd} {g : List (List D)} (le : Le H w0 ⟨[], []⟩ H' w' ⟨g, []⟩) : ∀ a o, H a = some o → H' a = some o := fun a o h => (le.fr a o h fun m => w0_M m).1
theorem snd_callP (n : Nat) (dsp : Bool) {a r : IE} (ha : Snd tb a) (hr : Snd tb r) : Snd tb (.callP n dsp a r) := sndE (f := fun c e => match e with
      | .Call (.Name f _) (e0 :: es) [] _ => decide (c.fns[n]? = some (f, es.length + 1)) && (glB c.sc f && (okNm f && (notStar e0 && ((match dsp, e0 with
        | true, .List xs _ => decide (xs.length ≤ 1000) && (ck a c).l xs
        | false, e0 => (ck a c).e e0
        | _, _ => false) && (ck r c).l es))))
      | _ => false) (fun c X cx e h => by
  split at h
  · rename_i f pf e0 es pos
    obtain ⟨h1, hA⟩ := band h
    obtain ⟨h2, hB⟩ := band hA
    obtain ⟨h3, hC⟩ := band hB
    obtain ⟨h5, hD⟩ := band hC
    obtain ⟨h4, h6⟩ := band hD
    clear h hA hB hC hD
    have h1 := of_decide_eq_true h1
    rw [cx.fns, List.getElem?_map] at h1
    cases hq : tb.fn[n]? with
    | none => rw [hq] at h1; cases h1
    | some q =>
      rw [hq] at h1
      obtain ⟨qn, qa, qs⟩ := q
      have h1 : some (qn, qa) = some (f, es.length + 1) := h1
      cases h1
      obtain ⟨fa, fd, ps, k, F, hr0, hm, hk, hb⟩ := (cx.ok n _ hq).ok
      have hs : tb.sem n = qs := by
        unfold Tb.sem
        rw [hq]
      have mm : SemMono qs := by rw [← hs]; exact cx.mono n
      obtain ⟨p1, p2⟩ := hr.l c X cx _ h6
      have go : ∀ {t0 : TE}, PE X e0 t0 → (∀ σ H Q, TEs X.K tb (.callP n dsp a r) σ H Q → t0 σ H fun v H1 => TLs X.K tb r es.length σ H1 fun vs H2 => spG X.K (es.length + 1) qs (v :: vs ++ []) H2 Q E0) → PE X (.Call (.Name f pf) (e0 :: es) [] pos) (TEs X.K tb (.callP n dsp a r)) := fun {t0} pe main =>
        PE.mono (pe_callG F hr0 cx.xo.gd (gl_of cx.sc h2) hm hk hb (pa_cons pe p1 (star_of h5)) (okNm_of h3).1 (star_of h5) (backTo_any (p2 _))) main
      have post : ∀ {w : Wd} {st st2 : Sto} {H H2 : Hp} {w2 : Wd} {Q : VK} {evs : List EV} (le : Le H w st H2 w2 st2) (ok2 : WOk X.K H2 w2 st2) (q : qs evs [] fun v _ => atomK v fun x => PostW X.K H w st Q x st2),
          qs evs [] fun ev g' => ∀ v H' w', w'.la = [] → Le H2 w0 ⟨[], []⟩ H' w' ⟨g', []⟩ → WOk X.K H' w' ⟨g', []⟩ → EVRep X.K H' w' ⟨g', []⟩ v ev → Q v H' := fun {w st st2 H H2 w2 Q evs} le ok2 q => mm _ _ _ _ (fun ev g' hk' v H' w' hla le' ok' r' => by
        obtain ⟨ok3, le3⟩ := ok2.ext (look_ext le')
        obtain ⟨x, kx, rx⟩ := atom_rep (w' := w2) (st' := st2) r' hk'
        exact kx v H' w2 (le.trans le3) ok3 rx) q
      cases dsp with
      | true =>
        split at h4
        · rename_i xs px he
          obtain ⟨h7, h8⟩ := band h4
          refine go (pe_lst (ha.l c X cx _ h8).1) fun σ H Q ⟨w, st, env, ok, er, h⟩ => ?_
          refine bL cx.mono a ok er h fun evs st1 q vs H1 w1 le1 ok1 r1 hl => ?_
          refine ⟨line1k (by rw [hl]; exact of_decide_eq_true h7), fun p np => ?_⟩
          have le2 := Le.fresh (o := .lst vs) np ok1
          have ok2 := WOk.fresh (o := .lst vs) np ok1
          refine bL cx.mono r ok2 ((er.le le1).le le2) q fun es2 st2 q vs2 H2 w2 le3 ok3 r3 hl2 => ?_
          obtain ⟨hp, np'⟩ := le3.fr p _ upd_same (ok1.notM np).1
          obtain ⟨ds, rd, q⟩ := cont_rep ok3 ((r1.le le2).le le3) q
          obtain ⟨ds2, rd2, q⟩ := cont_rep ok3 r3 q
          rw [hs] at q
          refine ⟨by rw [List.append_nil, List.length_cons, hl2], w0, [], _, rfl, w0_ok, by rw [List.append_nil]; exact .cons (Rep.lst hp (fun h => w0_M h) (rd.conv fun b o hb _ => ⟨hb, fun q => w0_M q⟩)) (reps_ev rd2), post ((le1.trans le2).trans le3) ok3 q⟩
        · contradiction
        · cases h4
      | false =>
        have h4 : (ck a c).e e0 = true := by
          revert h4
          cases e0 <;> exact id
        refine go (ha.e c X cx _ h4) fun σ H Q ⟨w, st, env, ok, er, h⟩ => ?_
        refine bE cx.mono a ok er h fun ev st1 q v H1 w1 le1 ok1 r1 => ?_
        refine bL cx.mono r ok1 (er.le le1) q fun es2 st2 q vs2 H2 w2 le3 ok3 r3 hl2 => ?_
        obtain ⟨ds, rd, q⟩ := cont_rep ok3 (.cons (r1.le le3) .nil) q
        obtain ⟨ds2, rd2, q⟩ := cont_rep ok3 r3 q
        rw [hs] at q
        cases rd with
        | cons rd rn =>
          cases rn
          exact ⟨by rw [List.append_nil, List.length_cons, hl2], w0, [], _, rfl, w0_ok, by rw [List.append_nil]; exact .cons (Rep.conv (fun b o hb _ => ⟨hb, fun q => w0_M q⟩) rd) (reps_ev rd2), post (le1.trans le3) ok3 q⟩
  · cases h) (fun _ => rfl)
/-! ### calls that are handed a list of the frame's own -/
theorem snd_callG (n : Nat) {r : IE} (hr : Snd tb r) : Snd tb (.callG n r) := sndE (f := fun c e => match e with
      | .Call (.Name f _) es [] _ => decide (c.fns[n]? = some (f, es.length)) && (glB c.sc f && (okNm f && (ck r c).l es))
      | _ => false) (fun c X cx e h => by
  split at h
  · rename_i f pf es pos
    obtain ⟨h1, hA⟩ := band h
    obtain ⟨h2, hB⟩ := band hA
    obtain ⟨h3, h4⟩ := band hB
    clear h hA hB
    have h1 := of_decide_eq_true h1
    rw [cx.fns, List.getElem?_map] at h1
    cases hq : tb.fn[n]? with
    | none => rw [hq] at h1; cases h1
    | some q =>
      rw [hq] at h1
      obtain ⟨qn, qa, qs⟩ := q
      have h1 : some (qn, qa) = some (f, es.length) := h1
      cases h1
      obtain ⟨fa, fd, ps, k, F, hr0, hm, hk, hb⟩ := (cx.ok n _ hq).ok
      have hs : tb.sem n = qs := by
        unfold Tb.sem
        rw [hq]
      have main : ∀ σ H Q, TEs X.K tb (.callG n r) σ H Q → tCall (spG X.K es.length qs) [] E0 (TLs X.K tb r es.length) σ H Q := fun σ H Q ⟨w, st, env, ok, er, h⟩ => by
        refine bL cx.mono r ok er h fun evs st1 q vs H1 w1 le1 ok1 r1 hl => ?_
        obtain ⟨m, es', q, rg⟩ := liftK_rep ok1 r1 q
        split at q
        · rename_i ys hys
          have hlt : m < w1.la.length := by rw [ok1.ll]; exact (List.getElem?_eq_some_iff.mp hys).1
          have ha : w1.la[m]? = some w1.la[m] := List.getElem?_eq_getElem hlt
          generalize w1.la[m] = a at ha
          rw [hs] at q
          refine ⟨by rw [List.append_nil]; exact hl, w1.innerG st1 a, st1.g ++ [ys], es', rfl, ok1.innerG ha hys, by rw [List.append_nil]; exact rg a ys ha hys, ?_⟩
          have mm : SemMono qs := by rw [← hs]; exact cx.mono n
          refine mm _ _ _ _ (fun ev g hk' v H' w' hla le ok' r' => ?_) q
          cases ev with
          | d x =>
            obtain ⟨g0, ys', ⟨e1, e2⟩, hk'⟩ := hk'
            subst e1
            obtain ⟨c1, c2, c3⟩ := outerG ok1 ha hys hla le ok' e2
            exact hk' v H' w1 (le1.trans c1) c2 (c3 v x r')
          | _ => exact hk'.elim
        · exact q.elim
      cases es with
      | nil =>
        have e0 := l_nil h4
        subst e0
        refine PE.mono (pe_callG0 F hr0 cx.xo.gd (gl_of cx.sc h2) hm hk hb (okNm_of h3).1) fun σ H Q h => ?_
        obtain ⟨w, st, env, ok, er, h⟩ := h
        exact main σ H Q ⟨w, st, env, ok, er, h⟩ |> fun ⟨w', st', env', ok', er', h'⟩ => h' [] H w' Le.refl ok' .nil rfl
      | cons e es =>
        have h5 := l_star h4
        obtain ⟨p1, p2⟩ := hr.l c X cx _ h4
        exact PE.mono (pe_callG F hr0 cx.xo.gd (gl_of cx.sc h2) hm hk hb p1 (okNm_of h3).1 (star_of h5) (backTo_any (any_tail h5 (p2 _)))) main
  · cases h) (fun _ => rfl)
/-! ### star calls -/
theorem snd_callS (n ar : Nat) {r : IE} (hr : SndLs tb r) : Snd tb (.callS n ar r) := sndE (f := fun c e => match e with
      | .Call (.Name f _) (e :: es) [] _ => decide (c.fns[n]? = some (f, ar)) && (glB c.sc f && (okNm f && (notStar e && (es.any isStarE && (ck r c).ls (e :: es)))))
      | _ => false) (fun c X cx e h => by
  split at h
  · rename_i f pf e es pos
    obtain ⟨h1, hA⟩ := band h
    obtain ⟨h2, hB⟩ := band hA
    obtain ⟨h3, hC⟩ := band hB
    obtain ⟨h4, hD⟩ := band hC
    obtain ⟨h5, h6⟩ := band hD
    clear h hA hB hC hD
    have h1 := of_decide_eq_true h1
    rw [cx.fns, List.getElem?_map] at h1
    cases hq : tb.fn[n]? with
    | none => rw [hq] at h1; cases h1
    | some q =>
      rw [hq] at h1
      obtain ⟨qn, qa, qs⟩ := q
      have h1 : some (qn, qa) = some (f, ar) := h1
      cases h1
      obtain ⟨fa, fd, ps, k, F, hr0, hm, hk, hb⟩ := (cx.ok n _ hq).ok
      have hs : tb.sem n = qs := by
        unfold Tb.sem
        rw [hq]
      refine PE.mono (pe_callGS F hr0 cx.xo.gd (gl_of cx.sc h2) hm hk hb (hr.ls c X cx _ h6) (okNm_of h3).1 (star_of h4) (backTo_anyT (starAny_of h5))) fun σ H Q ⟨w, st, env, ok, er, h⟩ => ?_
      refine ⟨w, st, env, ok, er, (sem_mono cx.mono r).l _ _ _ _ (fun evs st1 q vs H1 w1 le1 ok1 r1 => ?_) h⟩
      obtain ⟨hl, q⟩ := q
      obtain ⟨ri, q⟩ := r1.inner q
      rw [hs] at q
      refine ⟨by rw [EVReps.len r1]; exact hl, w1.inner st1, st1.g, evs, rfl, ok1.inner, ri, ?_⟩
      have mq : qs evs st1.g (fun v g => PostW X.K H w st Q v ⟨g, st1.l⟩) := q
      have mm : SemMono qs := by rw [← hs]; exact cx.mono n
      refine mm _ _ _ _ (fun ev g hk' v H' w' hla le ok' r' => ?_) mq
      obtain ⟨a, b, d⟩ := outer_of ok1 hla le ok'
      exact hk' v H' _ (le1.trans a) b (d v ev r')
  · cases h) (fun _ => rfl)
/-! ### new lists by + and * -/
def rLop (K : PySem.W.Frag) (kd : Nat) (o : BOp) : R2 := fun x y H Q => ∃ w st ex ey, WOk K H w st ∧ EVRep K H w st x ex ∧ EVRep K H w st y ey ∧ lopK kd o ex ey st (PostW K H w st Q)
theorem op_lop {X : Cx} (kd : Nat) (o : BOp) : OpR X (binaryOp (opA o)) (rLop X.K kd o) := by
  intro pins s σ H x y v u Q I rx ry h
  obtain ⟨w, st, ex, ey, ok, r1, r2, q⟩ := h
  have l6 := line6
  unfold lopK at q
  split at q
  · cases (show Rep _ _ _ x _ from r1) with
    | lst f1 m1 e1 =>
      cases (show Rep _ _ _ y _ from r2) with
      | lst f2 m2 e2 =>
        refine op_cat pins s σ H _ _ v u Q I rx ry ⟨_, _, _, _, rfl, rfl, f1, f2, ?_, fun p n => ?_⟩
        · rw [e1.length, e2.length]; omega
        · obtain ⟨ev, w', st', a, b, c, d⟩ := new_lst n ok (e1.append e2) q.2
          exact d _ _ w' a b c
  · cases (show Rep _ _ _ y _ from r2)
    cases (show Rep _ _ _ x _ from r1) with
    | lst f1 m1 e1 =>
      obtain ⟨⟨h0, h1, h2⟩, q⟩ := q
      refine op_rep pins s σ H _ _ v u Q I rx ry ⟨_, _, _, rfl, rfl, f1, by omega, by omega, ?_, fun p n => ?_⟩
      · rw [e1.length]; omega
      · obtain ⟨ev, w', st', a, b, c, d⟩ := new_lst n ok (e1.rep _) q
        exact d _ _ w' a b c
  · exact q.elim
theorem snd_lop (kd : Nat) (o : BOp) {a b : IE} (ha : Snd tb a) (hb : Snd tb b) : Snd tb (.lop kd o a b) := sndE (f := fun c e => match e with
      | .BinOp l op r _ => decide (op = opA o) && ((ck a c).e l && (ck b c).e r)
      | _ => false) (fun c X cx e h => by
  split at h
  · obtain ⟨h1, h2⟩ := band h
    obtain ⟨h2, h3⟩ := band h2
    rw [of_decide_eq_true h1]
    refine PE.mono (pe_op (op_lop kd o) (ha.e c X cx _ h2) (hb.e c X cx _ h3)) fun σ H Q ⟨w, st, env, ok, er, h⟩ => ?_
    exact bE cx.mono a ok er h fun ex st1 h1 v1 H1 w1 le1 ok1 r1 => bE cx.mono b ok1 (er.le le1) h1 fun ey st2 h2 v2 H2 w2 le2 ok2 r2 =>
      ⟨w2, st2, ex, ey, ok2, r1.le le2, r2, lopK_mono (fun ev st' hz v H' w' le3 ok3 r3 => hz v H' w' ((le1.trans le2).trans le3) ok3 r3) h2⟩
  · cases h) (fun _ => rfl)
/-! ### a list's index -/
theorem first_at {n : Int} : ∀ {ns : List Int}, n ∈ ns → ∃ j : Nat, ns[j]? = some n ∧ ∀ i, i < j → ns[i]? ≠ some n
  | [], h => by cases h
  | m :: ns, h => by
    by_cases e : m = n
    · exact ⟨0, by simp [e], fun i hi => by omega⟩
    · obtain ⟨j, h1, h2⟩ := first_at (n := n) (ns := ns) ((List.mem_cons.mp h).elim (fun z => absurd z.symm e) id)
      refine ⟨j + 1, by simpa using h1, fun i hi => ?_⟩
      cases i with
      | zero => simpa using e
      | succ i => simpa using h2 i (by omega)
theorem snd_idx {a x : IE} (ha : Snd tb a) (hx : Snd tb x) : Snd tb (.idx a x) := sndE (f := fun c e => match e with
      | .Call (.Attribute o m ap) [y] [] cp => decide (m = "index") && (notCall o && ((ap.endLine == cp.line) && (notStar y && ((ck a c).e o && (ck x c).e y))))
      | _ => false) (fun c X cx e h => by
  split at h
  · obtain ⟨h1, hA⟩ := band h
    obtain ⟨h2, hB⟩ := band hA
    obtain ⟨h3, hC⟩ := band hB
    obtain ⟨h4, hD⟩ := band hC
    obtain ⟨h5, h6⟩ := band hD
    have h1 := of_decide_eq_true h1
    subst h1
    refine PE.mono (pe_bm PySem.F.plainAttrs_list PySem.F.slot_list_index PySem.F.type_list_index mt_index (ha.e c X cx _ h5) (pa_cons (hx.e c X cx _ h6) pa_nil (star_of h4)) (base_of h2) (few_of h4) h3 (star_of h4) rfl) fun σ H Q ⟨w, st, env, ok, er, h⟩ => ?_
    refine bE cx.mono a ok er h fun ex st1 h1 ov H1 w1 le1 ok1 r1 => ?_
    obtain ⟨hl, h1⟩ := h1
    cases ex with
    | d dx =>
      cases dx with
      | list xs =>
        cases (show Rep _ _ _ ov _ from r1) with
        | lst f m rs =>
          refine ⟨.inl ⟨rfl, _, SqL.of f⟩, bE cx.mono x ok1 (er.le le1) h1 fun ey st2 h2 v H2 w2 le2 ok2 r2 => ?_⟩
          cases ey with
          | d dy =>
            cases dy with
            | int n =>
              obtain ⟨ns, ⟨rfl, hm⟩, q⟩ := h2
              cases (show Rep _ _ _ v _ from r2)
              have ev := reps_ints rs
              subst ev
              obtain ⟨j, hj, hb⟩ := first_at hm
              refine ⟨_, ns.map V.int, .int n, j, .int n, rfl, rfl, SqL.of (le2.fr _ _ f m).1, rfl, ?_, ?_, ?_, ?_, q j hj hb _ H2 w2 (le1.trans le2) ok2 (Rep.int _)⟩
              · exact List.all_eq_true.mpr fun z hz => by
                  obtain ⟨i, _, rfl⟩ := List.mem_map.mp hz
                  rfl
              · rw [List.getElem?_map, hj]; rfl
              · simp [eqV]
              · intro i z hi hz
                rw [List.getElem?_map] at hz
                cases hn : ns[i]? with
                | none => rw [hn] at hz; cases hz
                | some t =>
                  rw [hn] at hz
                  cases hz
                  have : t ≠ n := fun e => hb i hi (by rw [hn, e])
                  simpa [eqV] using this
            | _ => exact h2.elim
          | _ => exact h2.elim
      | _ => exact hl.elim
    | _ => exact hl.elim
  · cases h) (fun _ => rfl)
/-! ### a displayed dict's value -/
def vOf : D → V
  | .str x => .str x
  | .int i => .int i
  | _ => .non
def trOf (ks : List (Str × D)) : List (TE × TE) := ks.map fun q => ((fun σ H Q => Q (.str q.1) H : TE), (fun σ H Q => Q (vOf q.2) H : TE))
def kvOf (ks : List (Str × D)) : List (Key × V) := ks.map fun q => (Sum.inr q.1, vOf q.2)
theorem keys_pps {X : Cx} {pos : Pos} : ∀ {ks : List (Str × D)} {es : List (Option Expr)} {vs : List Expr}, keysB ks es vs = true → PPs X pos es vs (trOf ks) ∧ es.all (·.isSome) = true ∧ es.length = ks.length ∧ vs.length = ks.length ∧ ∀ q ∈ ks, ∀ K H M, Rep K H M (vOf q.2) q.2
  | ks, es, vs, h => by
    unfold keysB at h
    split at h
    · exact ⟨pps_nil, rfl, rfl, rfl, fun q hq => by cases hq⟩
    · obtain ⟨h1, h2⟩ := band h
      obtain ⟨h2, h3⟩ := band h2
      rw [of_decide_eq_true h1, of_decide_eq_true h2]
      obtain ⟨a, b, c, d, e⟩ := keys_pps (X := X) (pos := pos) h3
      refine ⟨pps_cons pe_str pe_str a, by simpa using b, by simp [c], by simp [d], fun q hq K H M => ?_⟩
      rcases List.mem_cons.mp hq with rfl | hq
      · exact .str _
      · exact e q hq K H M
    · obtain ⟨h1, h2⟩ := band h
      obtain ⟨h2, h3⟩ := band h2
      rw [of_decide_eq_true h1, of_decide_eq_true h2]
      obtain ⟨a, b, c, d, e⟩ := keys_pps (X := X) (pos := pos) h3
      refine ⟨pps_cons pe_str pe_int a, by simpa using b, by simp [c], by simp [d], fun q hq K H M => ?_⟩
      rcases List.mem_cons.mp hq with rfl | hq
      · exact .int _
      · exact e q hq K H M
    · cases h
theorem tp_of : ∀ (ks : List (Str × D)) (σ : L2.St) (H : Hp) (Q : List (V × V) → Hp → Prop), Q ((kvOf ks).map fun kv => (kV kv.1, kv.2)) H → tPairs (trOf ks) σ H Q
  | [], _, _, _, h => h
  | q :: ks, σ, H, Q, h => tp_of ks σ H (fun ps H3 => Q ((.str q.1, vOf q.2) :: ps) H3) h
theorem put_new {acc : List (Key × V)} {k : Key} {v : V} (h : k ∉ acc.map (·.1)) : putK acc k v = acc ++ [(k, v)] := by
  unfold putK
  refine if_neg fun z => h ?_
  rw [List.any_eq_true] at z
  obtain ⟨q, hq, e⟩ := z
  exact List.mem_map.mpr ⟨q, hq, of_decide_eq_true e⟩
theorem merge_new : ∀ (ks : List (Str × D)) (acc : List (Key × V)), (ks.map (·.1)).Nodup → (∀ q ∈ ks, (Sum.inr q.1 : Key) ∉ acc.map (·.1)) → mergeK acc (kvOf ks) = acc ++ kvOf ks
  | [], acc, _, _ => by simp [mergeK, kvOf]
  | q :: ks, acc, h, g => by
    have e : mergeK acc (kvOf (q :: ks)) = mergeK (putK acc (Sum.inr q.1) (vOf q.2)) (kvOf ks) := rfl
    have h := List.nodup_cons.mp (show (q.1 :: ks.map (·.1)).Nodup from h)
    rw [e, put_new (g q (by simp)), merge_new ks _ h.2 fun p hp z => ?_]
    · rw [List.append_assoc]
      rfl
    · rw [List.map_append, List.mem_append] at z
      rcases z with z | z
      · exact g p (by simp [hp]) z
      · have z : (Sum.inr p.1 : Key) = Sum.inr q.1 := by simpa using z
        injection z with z
        exact h.1 (by rw [← z]; exact List.mem_map.mpr ⟨p, hp, rfl⟩)
theorem val_of (z : Str) : ∀ ks : List (Str × D), valV (kvOf ks) (Sum.inr z) = (ks.lookup z).map vOf
  | [] => rfl
  | (k, d) :: ks => by
    by_cases e : k = z
    · subst e
      rw [List.lookup_cons_self]
      exact valV_pos (p := (Sum.inr k, vOf d)) rfl
    · have e1 : (z == k) = false := beq_eq_false_iff_ne.mpr fun q => e q.symm
      rw [List.lookup_cons, e1]
      exact (valV_neg (p := (Sum.inr k, vOf d)) fun q => e (by injection q)).trans (val_of z ks)
theorem lookup_mem {z : Str} {d : D} : ∀ {ks : List (Str × D)}, ks.lookup z = some d → ∃ q ∈ ks, q.2 = d
  | [], h => by cases h
  | (k, e) :: ks, h => by
    rw [List.lookup_cons] at h
    split at h
    · cases h
      exact ⟨(k, d), List.mem_cons_self .., rfl⟩
    · obtain ⟨q, hq, e⟩ := lookup_mem h
      exact ⟨q, by simp [hq], e⟩
theorem upd_twice {H : Hp} {p : Addr} {o o' : HO} : upd (upd H p o) p o' = upd H p o' := by
  funext a
  by_cases e : a = p
  · subst e
    rw [upd_same, upd_same]
  · rw [upd_ne e, upd_ne e, upd_ne e]
theorem snd_dget (ks : List (Str × D)) {a b : IE} (ha : Snd tb a) (hb : Snd tb b) : Snd tb (.dget ks a b) := sndE (f := fun c e => match e with
      | .Call (.Attribute (.Dict es vs _) m ap) [x, y] [] cp => decide (m = "get") && (keysB ks es vs && ((decide (ks.map (·.1)).Nodup && (decide (ks ≠ []) && decide (ks.length ≤ 15))) && ((ap.endLine == cp.line) && (notStar x && (notStar y && ((ck a c).e x && (ck b c).e y))))))
      | _ => false) (fun c X cx e h => by
  split at h
  · obtain ⟨h1, hA⟩ := band h
    obtain ⟨h2, hB⟩ := band hA
    obtain ⟨h3, hC⟩ := band hB
    obtain ⟨h3, h3'⟩ := band h3
    obtain ⟨h3', h3''⟩ := band h3'
    obtain ⟨h4, hD⟩ := band hC
    obtain ⟨h5, hE⟩ := band hD
    obtain ⟨h6, hF⟩ := band hE
    obtain ⟨h7, h8⟩ := band hF
    have h1 := of_decide_eq_true h1
    subst h1
    have nd := of_decide_eq_true h3
    have h15 := of_decide_eq_true h3''
    have hne := of_decide_eq_true h3'
    obtain ⟨p1, p2, p3, p4, p5⟩ := keys_pps (X := X) h2
    refine PE.mono (pe_dget2 (by have := cx.xo.hu; omega) (pe_disp p1 p2 (by rw [p3, p4]) (fun z => hne (List.eq_nil_of_length_eq_zero (by rw [← p3, z]; rfl))) (by rw [p3]; exact h15)) (ha.e c X cx _ h7) (hb.e c X cx _ h8)
      ⟨base_of rfl, few2_of h5 h6, h4, by rw [star_of h5, star_of h6]; rfl⟩) fun σ H Q ⟨w, st, env, ok, er, h⟩ => ?_
    intro p np
    refine tp_of ks σ _ _ ⟨upd_same, kvOf ks, rfl, by unfold kvOf; rw [List.length_map]; exact h15, ?_⟩
    rw [merge_new ks [] nd (fun q _ z => by cases z), List.nil_append, upd_twice]
    have le0 := Le.fresh (o := .dK (kvOf ks)) np ok
    have ok0 := WOk.fresh (o := .dK (kvOf ks)) np ok
    have nm := (ok.notM np).1
    refine ⟨p, rfl, .inl ⟨_, .inl upd_same⟩, bE cx.mono a ok0 (er.le le0) h fun ex st1 h1 v1 H1 w1 le1 ok1 r1 => bE cx.mono b ok1 (er.le (le0.trans le1)) h1 fun ey st2 h2 v2 H2 w2 le2 ok2 r2 => ?_⟩
    have hp : H2 p = some (.dK (kvOf ks)) := ((le1.trans le2).fr p _ upd_same nm).1
    unfold dgetK at h2
    split at h2
    · rename_i z
      cases (show Rep _ _ _ v1 _ from r1)
      refine ⟨_, DGet.k (k := Sum.inr z) hp, ?_⟩
      rw [val_of]
      split at h2
      · rename_i d hd
        obtain ⟨q, hq, rfl⟩ := lookup_mem hd
        rw [hd]
        exact h2 _ H2 w2 ((le0.trans le1).trans le2) ok2 (p5 q hq _ _ _)
      · rename_i hd
        rw [hd]
        exact h2 _ H2 w2 ((le0.trans le1).trans le2) ok2 r2
    · exact h2.elim
  · cases h) (fun _ => rfl)
end
end VI

/-! VI12: the soundness of comprehensions; of every expression. -/
namespace VI
open PySem PySem.Spec PyProof.Rows L2
/-! ### a list under construction -/
def Wd.hold (w : Wd) (p : Addr) : Wd := ⟨w.mu, w.la, fun a => w.F a ∨ a = p⟩
section
variable {K : PySem.W.Frag} {H H1 : Hp} {w w1 : Wd} {st st1 : Sto} {p : Addr} {o : HO}
theorem hold_M {a : Addr} : (w.hold p).M st a ↔ w.M st a ∨ a = p := by
  unfold Wd.M Wd.hold
  constructor
  · rintro (h | h | h | h)
    · exact .inl (.inl h)
    · exact .inl (.inr (.inl h))
    · exact .inl (.inr (.inr h))
    · exact .inr h
  · rintro ((h | h | h) | h)
    · exact .inl h
    · exact .inr (.inl h)
    · exact .inr (.inr (.inl h))
    · exact .inr (.inr (.inr h))
theorem hold_fr (n : H p = none) : Fr H w st (upd H p o) (w.hold p) st := fun a u h m =>
  ⟨by rw [upd_ne (ne_of_none h n)]; exact h, fun q => (hold_M.mp q).elim m (ne_of_none h n)⟩
theorem hold_ev {v : V} {ev : EV} (n : H p = none) (r : EVRep K H w st v ev) : EVRep K (upd H p o) (w.hold p) st v ev := by
  cases ev with
  | d x => exact Rep.conv (hold_fr n) r
  | lm n => exact r
  | gm n => exact r
  | sc ds =>
    obtain ⟨a, xs, e, f, q⟩ := r
    exact ⟨a, xs, e, f.conv (hold_fr n), q.conv (hold_fr n)⟩
theorem hold_env {σ : L2.St} {env : En} (n : H p = none) (r : EnvRep K H w st σ env) : EnvRep K (upd H p o) (w.hold p) st σ env :=
  ⟨r.1, fun i ev h => let ⟨v, e, q⟩ := r.2 i ev h; ⟨v, e, hold_ev n q⟩⟩
theorem hold_ok (n : H p = none) (ok : WOk K H w st) : WOk K (upd H p o) (w.hold p) st := by
  obtain ⟨nM, nm, nl⟩ := ok.notM n
  refine ⟨ok.lg, ok.ll, fun i xs h => ?_, fun i xs h => ?_, fun i a h e => ?_, ok.nd, fun a h => ?_⟩
  · obtain ⟨a, vs, e, z, r⟩ := ok.g i xs h
    exact ⟨a, vs, e, by rw [upd_ne (ne_of_none z n)]; exact z, r.conv (hold_fr n)⟩
  · obtain ⟨a, vs, e, z, r⟩ := ok.l i xs h
    exact ⟨a, vs, e, by rw [upd_ne (ne_of_none z n)]; exact z, r.conv (hold_fr n)⟩
  · obtain ⟨u, z⟩ := ok.fz i a h e
    exact ⟨u, by rw [upd_ne (ne_of_none z n)]; exact z⟩
  · rcases h with h | h
    · obtain ⟨⟨u, z⟩, q⟩ := ok.fF a h
      exact ⟨⟨u, by rw [upd_ne (ne_of_none z n)]; exact z⟩, q⟩
    · subst h
      exact ⟨⟨o, upd_same⟩, nm, nl⟩
/-- the list grows -/
theorem grow_ok (hp : w.F p) (ok : WOk K H w st) : WOk K (upd H p o) w st := by
  obtain ⟨_, nm, nl⟩ := ok.fF p hp
  have fr : Fr H w st (upd H p o) w st := fun a u h m => ⟨by rw [upd_ne fun e => m (by rw [e]; exact .inr (.inr hp))]; exact h, m⟩
  refine ⟨ok.lg, ok.ll, fun i xs h => ?_, fun i xs h => ?_, fun i a h e => ?_, ok.nd, fun a h => ?_⟩
  · obtain ⟨a, vs, e, z, r⟩ := ok.g i xs h
    exact ⟨a, vs, e, by rw [upd_ne fun q => nm (by rw [← q]; exact List.mem_iff_getElem?.mpr ⟨i, e⟩)]; exact z, r.conv fr⟩
  · obtain ⟨a, vs, e, z, r⟩ := ok.l i xs h
    exact ⟨a, vs, e, by rw [upd_ne fun q => nl (by rw [← q]; exact List.mem_iff_getElem?.mpr ⟨i, e⟩)]; exact z, r.conv fr⟩
  · obtain ⟨u, z⟩ := ok.fz i a h e
    exact ⟨u, by rw [upd_ne fun q => nl (by rw [← q]; exact List.mem_iff_getElem?.mpr ⟨i, e⟩)]; exact z⟩
  · obtain ⟨⟨u, z⟩, q⟩ := ok.fF a h
    refine ⟨?_, q⟩
    by_cases e : a = p
    · subst e
      exact ⟨o, upd_same⟩
    · exact ⟨u, by rw [upd_ne e]; exact z⟩
theorem grow_fr (hp : w.F p) : Fr H w st (upd H p o) w st := fun a u h m => ⟨by rw [upd_ne fun e => m (by rw [e]; exact .inr (.inr hp))]; exact h, m⟩
/-- the way through a loop that builds the list at p: as Le, but the list itself may change -/
structure LeP (p : Addr) (H : Hp) (w : Wd) (st : Sto) (H' : Hp) (w' : Wd) (st' : Sto) : Prop where
  F : w'.F = w.F
  mu : ∃ t, w'.mu = w.mu ++ t
  la : ∃ t, w'.la = w.la ++ t
  fr : Fr H w st H' w' st'
  fo : ∀ a, w.F a → a ≠ p → H' a = H a
theorem LeP.refl : LeP p H w st H w st := ⟨rfl, ⟨[], by simp⟩, ⟨[], by simp⟩, fun _ _ h m => ⟨h, m⟩, fun _ _ _ => rfl⟩
theorem LeP.step {H2 : Hp} {w2 : Wd} {st2 : Sto} (a : LeP p H w st H1 w1 st1) (b : Le H1 w1 st1 H2 w2 st2) : LeP p H w st H2 w2 st2 where
  F := b.F.trans a.F
  mu := by
    obtain ⟨t, e⟩ := a.mu
    obtain ⟨u, e'⟩ := b.mu
    exact ⟨t ++ u, by rw [e', e, List.append_assoc]⟩
  la := by
    obtain ⟨t, e⟩ := a.la
    obtain ⟨u, e'⟩ := b.la
    exact ⟨t ++ u, by rw [e', e, List.append_assoc]⟩
  fr := fun c o h m => let z := a.fr c o h m; b.fr c o z.1 z.2
  fo := fun c h n => (b.fo c (by rw [a.F]; exact h)).trans (a.fo c h n)
theorem LeP.trans {H2 : Hp} {w2 : Wd} {st2 : Sto} (a : LeP p H w st H1 w1 st1) (b : LeP p H1 w1 st1 H2 w2 st2) : LeP p H w st H2 w2 st2 where
  F := b.F.trans a.F
  mu := by
    obtain ⟨t, e⟩ := a.mu
    obtain ⟨u, e'⟩ := b.mu
    exact ⟨t ++ u, by rw [e', e, List.append_assoc]⟩
  la := by
    obtain ⟨t, e⟩ := a.la
    obtain ⟨u, e'⟩ := b.la
    exact ⟨t ++ u, by rw [e', e, List.append_assoc]⟩
  fr := fun c o h m => let z := a.fr c o h m; b.fr c o z.1 z.2
  fo := fun c h n => (b.fo c (by rw [a.F]; exact h) n).trans (a.fo c h n)
theorem LeP.grow (a : LeP p H w st H1 w1 st1) (hp : w.F p) : LeP p H w st (upd H1 p o) w1 st1 where
  F := a.F
  mu := a.mu
  la := a.la
  fr := fun c u h m => let z := a.fr c u h m; grow_fr (by rw [a.F]; exact hp) c u z.1 z.2
  fo := fun c h n => by rw [upd_ne n]; exact a.fo c h n
theorem LeP.env {σ : L2.St} {env : En} (r : EnvRep K H w st σ env) (l : LeP p H w st H1 w1 st1) : EnvRep K H1 w1 st1 σ env :=
  ⟨r.1, fun i ev h => by
    obtain ⟨v, e, q⟩ := r.2 i ev h
    refine ⟨v, e, ?_⟩
    cases ev with
    | d x => exact Rep.conv l.fr q
    | lm n => obtain ⟨a, e, h⟩ := q; exact ⟨a, e, pre_get l.la h⟩
    | gm n => obtain ⟨a, e, h⟩ := q; exact ⟨a, e, pre_get l.mu h⟩
    | sc ds =>
      obtain ⟨a, xs, e, f, q⟩ := q
      exact ⟨a, xs, e, f.conv l.fr, q.conv l.fr⟩⟩
/-- the list is done: it gets its kind -/
theorem held_lst {kd : Nat} {vs : List V} {xs : List D} {k : KE} (n : H p = none) (ok : WOk K H w st) (l : LeP p (upd H p o) (w.hold p) st H1 w1 st1) (ok1 : WOk K H1 w1 st1) (hp : H1 p = some (.lst vs)) (r : Reps K H1 (w1.M st1) vs xs) (h : newL kd xs st1 k) :
    ∃ ev w' st', Le H w st H1 w' st' ∧ WOk K H1 w' st' ∧ EVRep K H1 w' st' (.ref p) ev ∧ k ev st' := by
  have hF : w1.F = fun a => w.F a ∨ a = p := l.F
  have hpF : w1.F p := by rw [hF]; exact .inr rfl
  obtain ⟨_, nm, nl⟩ := ok1.fF p hpF
  have nwF : ¬ w.F p := fun q => by
    obtain ⟨⟨u, z⟩, _⟩ := ok.fF p q
    rw [n] at z
    cases z
  -- what is not the list
  have out : ∀ (w' : Wd) (st' : Sto), (∀ a, w'.M st' a → w1.M st1 a) → Fr H w st H1 w' st' := fun w' st' hm a u h m => by
    have z := l.fr a u (by rw [upd_ne (ne_of_none h n)]; exact h) fun q => (hold_M.mp q).elim m (ne_of_none h n)
    exact ⟨z.1, fun q => z.2 (hm a q)⟩
  have fo : ∀ a, w.F a → H1 a = H a := fun a h => by
    have e : a ≠ p := fun e => nwF (by rw [← e]; exact h)
    rw [l.fo a (.inl h) e, upd_ne e]
  unfold newL at h
  split at h
  · have hM : ∀ a, Wd.M ⟨w1.mu, w1.la, w.F⟩ st1 a → w1.M st1 a := fun a q => by
      rcases q with q | q | q
      · exact .inl q
      · exact .inr (.inl q)
      · exact .inr (.inr (by rw [hF]; exact .inl q))
    have cv : Fr H1 w1 st1 H1 ⟨w1.mu, w1.la, w.F⟩ st1 := fun a u h m => ⟨h, fun q => m (hM a q)⟩
    have np : ¬ Wd.M ⟨w1.mu, w1.la, w.F⟩ st1 p := fun q => by
      rcases q with q | ⟨i, ys, q, _⟩ | q
      · exact nm q
      · exact nl (List.mem_iff_getElem?.mpr ⟨i, q⟩)
      · exact nwF q
    refine ⟨.d (.list xs), ⟨w1.mu, w1.la, w.F⟩, st1, ⟨rfl, l.mu, l.la, out _ _ hM, fo⟩, ⟨ok1.lg, ok1.ll, fun i ys h => ?_, fun i ys h => ?_, ok1.fz, ok1.nd, fun a h => ?_⟩, Rep.lst hp np (r.conv cv), h⟩
    · obtain ⟨a, us, e, z, q⟩ := ok1.g i ys h
      exact ⟨a, us, e, z, q.conv cv⟩
    · obtain ⟨a, us, e, z, q⟩ := ok1.l i ys h
      exact ⟨a, us, e, z, q.conv cv⟩
    · exact ok1.fF a (by rw [hF]; exact .inl h)
  · have hM : ∀ a, Wd.M ⟨w1.mu, w1.la ++ [p], w.F⟩ ⟨st1.g, st1.l ++ [some xs]⟩ a → w1.M st1 a := fun a q => by
      rcases q with q | ⟨i, ys, q, q2⟩ | q
      · exact .inl q
      · have q : (w1.la ++ [p])[i]? = some a := q
        have q2 : (st1.l ++ [some xs])[i]? = some (some ys) := q2
        by_cases hi : i < w1.la.length
        · rw [List.getElem?_append_left hi] at q
          rw [List.getElem?_append_left (by rw [← ok1.ll]; exact hi)] at q2
          exact .inr (.inl ⟨i, ys, q, q2⟩)
        · rw [List.getElem?_append_right (by omega)] at q
          have : a = p := by
            have := List.mem_iff_getElem?.mpr ⟨_, q⟩
            simpa using this
          subst this
          exact .inr (.inr hpF)
      · exact .inr (.inr (by rw [hF]; exact .inl q))
    have cv : Fr H1 w1 st1 H1 ⟨w1.mu, w1.la ++ [p], w.F⟩ ⟨st1.g, st1.l ++ [some xs]⟩ := fun a u h m => ⟨h, fun q => m (hM a q)⟩
    have pl : ∃ t, w1.la ++ [p] = w.la ++ t := by
      obtain ⟨t, e⟩ := l.la
      exact ⟨t ++ [p], by rw [e, List.append_assoc]; rfl⟩
    refine ⟨.lm st1.l.length, ⟨w1.mu, w1.la ++ [p], w.F⟩, ⟨st1.g, st1.l ++ [some xs]⟩, ⟨rfl, l.mu, pl, out _ _ hM, fo⟩, ⟨ok1.lg, by simp [ok1.ll], fun i ys h => ?_, fun i ys h => ?_, fun i a h e => ?_, ?_, fun a h => ?_⟩, ⟨p, rfl, ?_⟩, h⟩
    · obtain ⟨a, us, e, z, q⟩ := ok1.g i ys h
      exact ⟨a, us, e, z, q.conv cv⟩
    · have h : (st1.l ++ [some xs])[i]? = some (some ys) := h
      by_cases hi : i < st1.l.length
      · rw [List.getElem?_append_left hi] at h
        obtain ⟨a, us, e, z, q⟩ := ok1.l i ys h
        exact ⟨a, us, pre_get ⟨[p], rfl⟩ e, z, q.conv cv⟩
      · have hi2 : i = st1.l.length := by
          have := (List.getElem?_eq_some_iff.mp h).1
          rw [List.length_append] at this
          simp at this
          omega
        subst hi2
        rw [List.getElem?_append_right (Nat.le_refl _)] at h
        simp at h
        subst h
        refine ⟨p, vs, ?_, hp, r.conv cv⟩
        show (w1.la ++ [p])[st1.l.length]? = some p
        rw [List.getElem?_append_right (by rw [ok1.ll]; exact Nat.le_refl _), ok1.ll]
        simp
    · have h : (st1.l ++ [some xs])[i]? = some none := h
      have e : (w1.la ++ [p])[i]? = some a := e
      by_cases hi : i < st1.l.length
      · rw [List.getElem?_append_left hi] at h
        rw [List.getElem?_append_left (by rw [ok1.ll]; exact hi)] at e
        exact ok1.fz i a h e
      · rw [List.getElem?_append_right (by omega)] at h
        have := List.mem_iff_getElem?.mpr ⟨_, h⟩
        simp at this
    · show (w1.mu ++ (w1.la ++ [p])).Nodup
      rw [← List.append_assoc]
      exact nodup_snoc ok1.nd fun h => (List.mem_append.mp h).elim nm nl
    · obtain ⟨q1, q2, q3⟩ := ok1.fF a (by rw [hF]; exact .inl h)
      exact ⟨q1, q2, fun q => (List.mem_append.mp q).elim q3 fun q => nwF (by rw [show p = a from (by simpa using q : a = p).symm]; exact h)⟩
    · show (w1.la ++ [p])[st1.l.length]? = some p
      rw [List.getElem?_append_right (by rw [ok1.ll]; exact Nat.le_refl _), ok1.ll]
      simp
  · have hM : ∀ a, Wd.M ⟨w1.mu ++ [p], w1.la, w.F⟩ ⟨st1.g ++ [xs], st1.l⟩ a → w1.M st1 a := fun a q => by
      rcases q with q | q | q
      · rcases List.mem_append.mp q with q | q
        · exact .inl q
        · have : a = p := by simpa using q
          subst this
          exact .inr (.inr hpF)
      · exact .inr (.inl q)
      · exact .inr (.inr (by rw [hF]; exact .inl q))
    have cv : Fr H1 w1 st1 H1 ⟨w1.mu ++ [p], w1.la, w.F⟩ ⟨st1.g ++ [xs], st1.l⟩ := fun a u h m => ⟨h, fun q => m (hM a q)⟩
    have pl : ∃ t, w1.mu ++ [p] = w.mu ++ t := by
      obtain ⟨t, e⟩ := l.mu
      exact ⟨t ++ [p], by rw [e, List.append_assoc]; rfl⟩
    refine ⟨.gm st1.g.length, ⟨w1.mu ++ [p], w1.la, w.F⟩, ⟨st1.g ++ [xs], st1.l⟩, ⟨rfl, pl, l.la, out _ _ hM, fo⟩, ⟨by simp [ok1.lg], ok1.ll, fun i ys h => ?_, fun i ys h => ?_, ok1.fz, ?_, fun a h => ?_⟩, ⟨p, rfl, ?_⟩, h⟩
    · have h : (st1.g ++ [xs])[i]? = some ys := h
      by_cases hi : i < st1.g.length
      · rw [List.getElem?_append_left hi] at h
        obtain ⟨a, us, e, z, q⟩ := ok1.g i ys h
        exact ⟨a, us, pre_get ⟨[p], rfl⟩ e, z, q.conv cv⟩
      · have hi2 : i = st1.g.length := by
          have := (List.getElem?_eq_some_iff.mp h).1
          rw [List.length_append] at this
          simp at this
          omega
        subst hi2
        rw [List.getElem?_append_right (Nat.le_refl _)] at h
        simp at h
        subst h
        refine ⟨p, vs, ?_, hp, r.conv cv⟩
        show (w1.mu ++ [p])[st1.g.length]? = some p
        rw [List.getElem?_append_right (by rw [ok1.lg]; exact Nat.le_refl _), ok1.lg]
        simp
    · obtain ⟨a, us, e, z, q⟩ := ok1.l i ys h
      exact ⟨a, us, e, z, q.conv cv⟩
    · show ((w1.mu ++ [p]) ++ w1.la).Nodup
      rw [List.append_assoc]
      refine (List.Perm.nodup_iff (List.Perm.append_left w1.mu (List.perm_append_comm (l₁ := [p]) (l₂ := w1.la)))).mpr ?_
      rw [← List.append_assoc]
      exact nodup_snoc ok1.nd fun h => (List.mem_append.mp h).elim nm nl
    · obtain ⟨q1, q2, q3⟩ := ok1.fF a (by rw [hF]; exact .inl h)
      exact ⟨q1, fun q => (List.mem_append.mp q).elim q2 fun q => nwF (by rw [show p = a from (by simpa using q : a = p).symm]; exact h), q3⟩
    · show (w1.mu ++ [p])[st1.g.length]? = some p
      rw [List.getElem?_append_right (by rw [ok1.lg]; exact Nat.le_refl _), ok1.lg]
      simp
end
/-! ### the block -/
theorem wipe_get {σ : L2.St} {j : Nat} : ∀ {vs : List Nat}, (wipe σ vs)[j]? = if j ∈ vs ∧ j < σ.length then some none else σ[j]?
  | [] => by simp [wipe]
  | v :: vs => by
    unfold wipe
    by_cases h : v = j
    · subst h
      by_cases hl : v < σ.length
      · rw [List.getElem?_set_self (by rw [wipe_length]; exact hl), if_pos ⟨List.mem_cons_self, hl⟩]
      · rw [if_neg fun z => hl z.2, List.getElem?_eq_none (by rw [List.length_set, wipe_length]; omega), List.getElem?_eq_none (by omega)]
    · rw [List.getElem?_set_ne h, wipe_get (vs := vs)]
      have : j ∈ v :: vs ↔ j ∈ vs := by
        rw [List.mem_cons]
        exact ⟨fun z => z.elim (fun e => absurd e.symm h) id, .inr⟩
      simp only [this]
theorem wipe_of {σ σ' : L2.St} {vs us : List Nat} (c : Chg us (wipe σ vs) σ') (h : ∀ j ∈ us, j ∈ vs) : wipe σ' vs = wipe σ vs := by
  refine List.ext_getElem? fun j => ?_
  have hl : σ'.length = σ.length := by rw [c.1, wipe_length]
  rw [wipe_get]
  by_cases hj : j ∈ vs ∧ j < σ'.length
  · rw [if_pos hj, wipe_get, if_pos ⟨hj.1, by rw [← hl]; exact hj.2⟩]
  · rw [if_neg hj]
    by_cases hm : j ∈ vs
    · have : ¬ j < σ'.length := fun z => hj ⟨hm, z⟩
      rw [List.getElem?_eq_none (by omega), List.getElem?_eq_none (by rw [wipe_length]; omega)]
    · exact c.2 j fun z => hm (h j z)
section
variable {tb : Tb}
theorem CxOk.blk {c : Ctx} {X : Cx} (cx : CxOk tb c X) (s : Shared) (H : Hp) (scope : Scope) (cl : List (Str × Addr)) (C : Addr) (fp : List Addr) :
    CxOk tb { c with sc := relS scope c.sc, fn := fun x => scope.names.lookup x == some .cell } (X.blk s H scope (compEnvC scope cl C X.env) fp) where
  xo := ⟨cx.xo.calm, rfl, cx.xo.hu, cx.xo.gd, cx.xo.nodig⟩
  mono := cx.mono
  N := cx.N
  nd := cx.nd
  sc := by
    show relS scope X.env.scope = _
    rw [cx.sc]
  fn := fun x h => h
  fns := cx.fns
  gls := cx.gls
  ok := fun n q h => let ⟨a, b, ps, k, z⟩ := (cx.ok n q h).ok; ⟨a, b, ps, k, z⟩
  gk := cx.gk
  mgn := cx.mgn
  gcd := cx.gcd
  isq := cx.isq
theorem pts_of {t : IE} (ht : Snd tb t) {c : Ctx} {X : Cx} (cx : CxOk tb c X) {ifs : List Expr} (h : (match ifs with
          | [] => isNil t
          | [y] => !isNil t && (ck t c).t y
          | _ => false) = true) : PTs X ifs (TTs X.K tb t) := by
  split at h
  · refine ⟨fun pins s σ H Q I q => pts_nil.run pins s σ H Q I ?_⟩
    obtain ⟨w, st, env, ok, er, q⟩ := q
    have e : t = .nil := by
      cases t <;> first | rfl | exact ff h
    subst e
    exact q H w Le.refl ok
  · exact pts_one (ht.t c X cx _ (band h).2)
  · cases h
theorem line7 {n : Nat} (h : n < 10000000) : n < sizeLine := by
  rw [sizeLine_eq]; omega
/-- the way through the loop -/
theorem cmpr_go {kd : Nat} {own : List Nat} {tg it t e : IE} (mono : tb.Mono) {K : PySem.W.Frag} (hsl : ∀ j ∈ slotsOf tg, j ∈ own) {σ : L2.St} {H : Hp} {Q : VK}
    (h : TEs K tb (.cmpr kd own tg it t e) σ H Q) : tLc (TIs K tb it) (TGs1 K tb tg) (TTs K tb t) (TEs K tb e) own σ H Q := by
  obtain ⟨w, st, env, ok, er, h⟩ := h
  refine ⟨w, st, env, ok, er, (sem_mono mono it).i _ _ _ _ (fun xs st1 h1 J H1 w1 le1 ok1 ys D nD => ?_) h⟩
  obtain ⟨hlen, h1⟩ := h1
  have er1 := hold_env (o := .lst []) nD ((er.le le1).wipe own)
  refine ⟨fun i m H' => ∃ w' st' vs acc, i ≤ xs.length ∧ m = xs.length - i ∧ acc.length ≤ i ∧ LeP D (upd H1 D (.lst [])) (w1.hold D) st1 H' w' st' ∧ WOk K H' w' st' ∧ H' D = some (.lst vs) ∧ Reps K H' (w'.M st') vs acc ∧
    loopC (sem tb tg).a (sem tb t).t (sem tb e).e (wipeE env own) (xs.drop i) st' acc fun ys s => newL kd ys s (PostW K H w st Q), ?_, ?_⟩
  · exact ⟨xs.length, w1.hold D, st1, [], [], Nat.zero_le _, rfl, Nat.le_refl _, LeP.refl, hold_ok nD ok1, upd_same, .nil, by rw [List.drop_zero]; exact h1⟩
  · rintro i m H' ⟨w', st', vs, acc, hi, hm, ha, lp, ok', hD, rs, hl⟩
    have fr : Fr H1 w1 st1 H' w' st' := fun a u h m => let z := hold_fr (o := .lst []) nD a u h m; lp.fr a u z.1 z.2
    have dF : w'.F D := by
      rw [lp.F]
      exact .inr rfl
    obtain ⟨y1, y2⟩ := ys H' w' st' fr ok' i
    by_cases hx : i < xs.length
    · have hxi : xs[i]? = some xs[i] := List.getElem?_eq_getElem hx
      rw [List.drop_eq_getElem_cons hx] at hl
      obtain ⟨go, y2⟩ := y2 _ hxi
      refine .inr ⟨go, fun H'' => ∃ w'' st'' vs acc, acc.length ≤ i + 1 ∧ LeP D (upd H1 D (.lst [])) (w1.hold D) st1 H'' w'' st'' ∧ WOk K H'' w'' st'' ∧ H'' D = some (.lst vs) ∧ Reps K H'' (w''.M st'') vs acc ∧
        loopC (sem tb tg).a (sem tb t).t (sem tb e).e (wipeE env own) (xs.drop (i + 1)) st'' acc (fun ys s => newL kd ys s (PostW K H w st Q)), fun H'' ⟨w'', st'', vs, acc, a1, a2, a3, a4, a5, a6⟩ => ⟨xs.length - (i + 1), by omega, w'', st'', vs, acc, by omega, rfl, a1, a2, a3, a4, a5, a6⟩, fun v H2 yl => ?_⟩
      obtain ⟨le2, ok2, rv⟩ := y2 v H2 yl
      refine ⟨w', st', wipeE env own, .d xs[i], ok2, (LeP.env er1 lp).le le2, rv, (sem_mono mono tg).a _ _ _ _ (fun env' hc σ2 er2 ch => ⟨wipe_of ch hsl, bT mono t ok2 er2 hc fun b st3 h3 H3 w3 le3 ok3 => ?_⟩) hl⟩
      have hD3 : H3 D = some (.lst vs) := by rw [le3.fo D dF, le2.fo D dF]; exact hD
      cases b with
      | true =>
        have h3 := brT' h3; simp only [if_true]
        refine bE mono e ok3 (er2.le le3) h3 fun ev st4 h4 y H4 w4 le4 ok4 r4 => ?_
        obtain ⟨d, rd, h4⟩ := dE_rep r4 h4
        have d3 : w3.F D := by rw [le3.F]; exact dF
        have d4 : w4.F D := by rw [le4.F]; exact d3
        have lpp := ((lp.step le2).step le3).step le4
        have rs4 := ((rs.le le2).le le3).le le4
        refine ⟨vs, by rw [le4.fo D d3]; exact hD3, line7 (by rw [rs.length]; omega), w4, st4, vs ++ [y], acc ++ [d], by rw [List.length_append, List.length_singleton]; omega, lpp.grow (.inr rfl), grow_ok d4 ok4, upd_same, ?_, h4⟩
        exact (rs4.append (.cons rd .nil)).conv (grow_fr d4)
      | false =>
        have h3 := brF' h3; simp only [Bool.false_eq_true, if_false]
        exact ⟨w3, st3, vs, acc, by omega, (lp.step le2).step le3, ok3, hD3, (rs.le le2).le le3, h3⟩
    · have e : i = xs.length := by omega
      subst e
      rw [List.drop_length] at hl
      obtain ⟨ev, w'', st'', le, ok'', r'', q⟩ := held_lst nD ok1 lp ok' hD rs hl
      exact .inl ⟨y1 (Nat.le_refl _), q _ _ w'' (le1.trans le) ok'' r''⟩
/-- the way through two loops -/
theorem cmpr2_go {kd : Nat} {own : List Nat} {tg it t tg1 it1 t1 e : IE} (mono : tb.Mono) {K : PySem.W.Frag} (hsl : ∀ j ∈ slotsOf tg, j ∈ own) {σ : L2.St} {H : Hp} {Q : VK}
    (h : TEs K tb (.cmpr2 kd own tg it t tg1 it1 t1 e) σ H Q) : tLc2 (TIs K tb it) (TGs1 K tb tg) (TTs K tb t) (TIs K tb it1) (TGs1 K tb tg1) (TTs K tb t1) (TEs K tb e) own (slotsOf tg1) σ H Q := by
  obtain ⟨w, st, env, ok, er, h⟩ := h
  refine ⟨w, st, env, ok, er, (sem_mono mono it).i _ _ _ _ (fun xs st1 h1 J H1 w1 le1 ok1 ys D nD => ?_) h⟩
  have er1 := hold_env (o := .lst []) nD ((er.le le1).wipe own)
  refine ⟨fun i m H' => ∃ w' st' vs acc, i ≤ xs.length ∧ m = xs.length - i ∧ LeP D (upd H1 D (.lst [])) (w1.hold D) st1 H' w' st' ∧ WOk K H' w' st' ∧ H' D = some (.lst vs) ∧ Reps K H' (w'.M st') vs acc ∧
    loopC2 (sem tb tg).a (sem tb t).t (sem tb it1).i (slotsOf tg1) (sem tb tg1).a (sem tb t1).t (sem tb e).e (wipeE env own) (xs.drop i) st' acc fun ys s => newL kd ys s (PostW K H w st Q), ?_, ?_⟩
  · exact ⟨xs.length, w1.hold D, st1, [], [], Nat.zero_le _, rfl, LeP.refl, hold_ok nD ok1, upd_same, .nil, by rw [List.drop_zero]; exact h1⟩
  · rintro i m H' ⟨w', st', vs, acc, hi, hm, lp, ok', hD, rs, hl⟩
    have fr : Fr H1 w1 st1 H' w' st' := fun a u h m => let z := hold_fr (o := .lst []) nD a u h m; lp.fr a u z.1 z.2
    have dF : w'.F D := by
      rw [lp.F]
      exact .inr rfl
    obtain ⟨y1, y2⟩ := ys H' w' st' fr ok' i
    by_cases hx : i < xs.length
    · have hxi : xs[i]? = some xs[i] := List.getElem?_eq_getElem hx
      rw [List.drop_eq_getElem_cons hx] at hl
      obtain ⟨go, y2⟩ := y2 _ hxi
      refine .inr ⟨go, fun H'' => ∃ w'' st'' vs acc, LeP D (upd H1 D (.lst [])) (w1.hold D) st1 H'' w'' st'' ∧ WOk K H'' w'' st'' ∧ H'' D = some (.lst vs) ∧ Reps K H'' (w''.M st'') vs acc ∧
        loopC2 (sem tb tg).a (sem tb t).t (sem tb it1).i (slotsOf tg1) (sem tb tg1).a (sem tb t1).t (sem tb e).e (wipeE env own) (xs.drop (i + 1)) st'' acc (fun ys s => newL kd ys s (PostW K H w st Q)), fun H'' ⟨w'', st'', vs, acc, a2, a3, a4, a5, a6⟩ => ⟨xs.length - (i + 1), by omega, w'', st'', vs, acc, by omega, rfl, a2, a3, a4, a5, a6⟩, fun v H2 yl => ?_⟩
      obtain ⟨le2, ok2, rv⟩ := y2 v H2 yl
      refine ⟨w', st', wipeE env own, .d xs[i], ok2, (LeP.env er1 lp).le le2, rv, (sem_mono mono tg).a _ _ _ _ (fun env' hc σ2 er2 ch => ⟨wipe_of ch hsl, bT mono t ok2 er2 hc fun b st3 h3 H3 w3 le3 ok3 => ?_⟩) hl⟩
      have hD3 : H3 D = some (.lst vs) := by rw [le3.fo D dF, le2.fo D dF]; exact hD
      have d3 : w3.F D := by rw [le3.F]; exact dF
      cases b with
      | true =>
        have h3 := brT' h3; simp only [if_true]
        refine ⟨w3, st3, env', ok3, er2.le le3, (sem_mono mono it1).i _ _ _ _ (fun ys1 st4 h4 J1 H4 w4 le4 ok4 yy => ?_) h3⟩
        obtain ⟨hlen, h4⟩ := h4
        have d4 : w4.F D := by rw [le4.F]; exact d3
        have hD4 : H4 D = some (.lst vs) := by rw [le4.fo D d3]; exact hD3
        have rs4 := ((rs.le le2).le le3).le le4
        have lp4 := ((lp.step le2).step le3).step le4
        have er4 := ((er2.le le3).le le4).wipe (slotsOf tg1)
        refine ⟨fun j k H' => ∃ w' st' vs' acc', j ≤ ys1.length ∧ k = ys1.length - j ∧ acc'.length ≤ acc.length + j ∧ LeP D H4 w4 st4 H' w' st' ∧ WOk K H' w' st' ∧ H' D = some (.lst vs') ∧ Reps K H' (w'.M st') vs' acc' ∧
          loopC (sem tb tg1).a (sem tb t1).t (sem tb e).e (wipeE env' (slotsOf tg1)) (ys1.drop j) st' acc' (fun acc2 st5 => loopC2 (sem tb tg).a (sem tb t).t (sem tb it1).i (slotsOf tg1) (sem tb tg1).a (sem tb t1).t (sem tb e).e (wipeE env own) (xs.drop (i + 1)) st5 acc2 fun ys s => newL kd ys s (PostW K H w st Q)), ?_, ?_⟩
        · exact ⟨ys1.length, w4, st4, vs, acc, Nat.zero_le _, rfl, Nat.le_refl _, LeP.refl, ok4, hD4, rs4, by rw [List.drop_zero]; exact h4⟩
        · rintro j k H5 ⟨w5, st5, vs5, acc5, hj, hk, ha, lp5, ok5, hD5, rs5, hl5⟩
          have d5 : w5.F D := by rw [lp5.F]; exact d4
          obtain ⟨z1, z2⟩ := yy H5 w5 st5 lp5.fr ok5 j
          by_cases hy : j < ys1.length
          · have hyj : ys1[j]? = some ys1[j] := List.getElem?_eq_getElem hy
            rw [List.drop_eq_getElem_cons hy] at hl5
            obtain ⟨go1, z2⟩ := z2 _ hyj
            refine .inr ⟨go1, fun H'' => ∃ w'' st'' vs' acc', acc'.length ≤ acc.length + (j + 1) ∧ LeP D H4 w4 st4 H'' w'' st'' ∧ WOk K H'' w'' st'' ∧ H'' D = some (.lst vs') ∧ Reps K H'' (w''.M st'') vs' acc' ∧
              loopC (sem tb tg1).a (sem tb t1).t (sem tb e).e (wipeE env' (slotsOf tg1)) (ys1.drop (j + 1)) st'' acc' (fun acc2 st5 => loopC2 (sem tb tg).a (sem tb t).t (sem tb it1).i (slotsOf tg1) (sem tb tg1).a (sem tb t1).t (sem tb e).e (wipeE env own) (xs.drop (i + 1)) st5 acc2 fun ys s => newL kd ys s (PostW K H w st Q)),
              fun H'' ⟨w'', st'', vs, acc, a1, a2, a3, a4, a5, a6⟩ => ⟨ys1.length - (j + 1), by omega, w'', st'', vs, acc, by omega, rfl, a1, a2, a3, a4, a5, a6⟩, fun v1 H6 yl1 => ?_⟩
            obtain ⟨le6, ok6, rv6⟩ := z2 v1 H6 yl1
            refine ⟨w5, st5, wipeE env' (slotsOf tg1), .d ys1[j], ok6, (LeP.env er4 lp5).le le6, rv6, (sem_mono mono tg1).a _ _ _ _ (fun env'' hc1 σ3 er3 ch1 => ⟨wipe_of ch1 fun _ h => h, bT mono t1 ok6 er3 hc1 fun b1 st7 h7 H7 w7 le7 ok7 => ?_⟩) hl5⟩
            have hD7 : H7 D = some (.lst vs5) := by rw [le7.fo D d5, le6.fo D d5]; exact hD5
            cases b1 with
            | true =>
              have h7 := brT' h7; simp only [if_true]
              refine bE mono e ok7 (er3.le le7) h7 fun ev st8 h8 y H8 w8 le8 ok8 r8 => ?_
              obtain ⟨d, rd, h8⟩ := dE_rep r8 h8
              have d7 : w7.F D := by rw [le7.F]; exact d5
              have d8 : w8.F D := by rw [le8.F]; exact d7
              have lpp := ((lp5.step le6).step le7).step le8
              have rs8 := ((rs5.le le6).le le7).le le8
              refine ⟨vs5, by rw [le8.fo D d7]; exact hD7, line7 (by rw [rs5.length]; omega), w8, st8, vs5 ++ [y], acc5 ++ [d], by rw [List.length_append, List.length_singleton]; omega, lpp.grow d4, grow_ok d8 ok8, upd_same, ?_, h8⟩
              exact (rs8.append (.cons rd .nil)).conv (grow_fr d8)
            | false =>
              have h7 := brF' h7; simp only [Bool.false_eq_true, if_false]
              exact ⟨w7, st7, vs5, acc5, by omega, (lp5.step le6).step le7, ok7, hD7, (rs5.le le6).le le7, h7⟩
          · have e5 : j = ys1.length := by omega
            subst e5
            rw [List.drop_length] at hl5
            exact .inl ⟨z1 (Nat.le_refl _), w5, st5, vs5, acc5, lp4.trans lp5, ok5, hD5, rs5, hl5⟩
      | false =>
        have h3 := brF' h3; simp only [Bool.false_eq_true, if_false]
        exact ⟨w3, st3, vs, acc, (lp.step le2).step le3, ok3, hD3, (rs.le le2).le le3, h3⟩
    · have e : i = xs.length := by omega
      subst e
      rw [List.drop_length] at hl
      obtain ⟨ev, w'', st'', le, ok'', r'', q⟩ := held_lst nD ok1 lp ok' hD rs hl
      exact .inl ⟨y1 (Nat.le_refl _), q _ _ w'' (le1.trans le) ok'' r''⟩
theorem pts_ofB {t : IE} (ht : Snd tb t) {c : Ctx} {X : Cx} (cx : CxOk tb c X) {ifs : List Expr} (h : ifsB (isNil t) (ck t c).t ifs = true) : PTs X ifs (TTs X.K tb t) := by
  refine pts_of ht cx ?_
  unfold ifsB at h
  split at h
  · exact h
  · exact h
  · cases h
theorem snd_cmpr2 (kd : Nat) (own : List Nat) {tg it t tg1 it1 t1 e : IE} (hg : Snd tb tg) (hi : Snd tb it) (ht : Snd tb t) (hg1 : Snd tb tg1) (hi1 : Snd tb it1) (ht1 : Snd tb t1) (he : Snd tb e) : Snd tb (.cmpr2 kd own tg it t tg1 it1 t1 e) := sndE (f := fun c x => (ck (.cmpr2 kd own tg it t tg1 it1 t1 e) c).e x) (fun c X cx x h => by
  have form : ∃ elt tgx itx ifs a tgx1 itx1 ifs1 a1 scope pos, x = .ListComp elt [⟨tgx, itx, ifs, a⟩, ⟨tgx1, itx1, ifs1, a1⟩] scope pos := by
    cases x with
    | ListComp elt gs scope pos =>
      cases gs with
      | nil => exact ff h
      | cons g gs =>
        cases gs with
        | nil =>
          obtain ⟨a, b, c, d⟩ := g
          exact ff h
        | cons g1 gs =>
          cases gs with
          | nil =>
            obtain ⟨a, b, c, d⟩ := g
            obtain ⟨a1, b1, c1, d1⟩ := g1
            exact ⟨_, _, _, _, _, _, _, _, _, _, _, rfl⟩
          | cons _ _ =>
            obtain ⟨a, b, c, d⟩ := g
            obtain ⟨a1, b1, c1, d1⟩ := g1
            exact ff h
    | _ => exact ff h
  obtain ⟨elt, tgx, itx, ifs, a, tgx1, itx1, ifs1, a1, scope, pos, rfl⟩ := form
  obtain ⟨h1, h⟩ := band h
  obtain ⟨h2, h⟩ := band h
  obtain ⟨h3, h⟩ := band h
  obtain ⟨h4, h⟩ := band h
  obtain ⟨h5, h⟩ := band h
  obtain ⟨h6, h⟩ := band h
  obtain ⟨h7, h⟩ := band h
  obtain ⟨h8, h⟩ := band h
  obtain ⟨h9, h⟩ := band h
  obtain ⟨h10, h⟩ := band h
  obtain ⟨h11, h⟩ := band h
  obtain ⟨h12, h⟩ := band h
  obtain ⟨h13, h14⟩ := band h
  have e1 := of_decide_eq_true h1
  have e2 := of_decide_eq_true h2
  subst e1 e2
  have ho : (own.map fun i => (c.N.getD i Str.empty, i)).map (·.2) = own := by
    rw [List.map_map]
    exact (List.map_congr_left fun _ _ => rfl).trans (List.map_id _)
  have bk : BlkOk X.N X.env.scope scope (own.map fun i => (c.N.getD i Str.empty, i)) := by rw [cx.N, cx.sc]; exact blkOk_by h3
  have r1 : ∀ (s : Shared) (H : Hp) (C : Addr) (cl : List (Str × Addr)) (fp : List Addr), PG (X.blk s H scope (compEnvC scope cl C X.env) fp) tgx (TGs1 X.K tb tg) := fun s H C cl fp => hg.g _ _ (cx.blk s H scope cl C fp) _ h6
  have r2 : ∀ (s : Shared) (H : Hp) (C : Addr) (cl : List (Str × Addr)) (fp : List Addr), PTs (X.blk s H scope (compEnvC scope cl C X.env) fp) ifs (TTs X.K tb t) := fun s H C cl fp => pts_ofB ht (cx.blk s H scope cl C fp) h8
  have r3 : ∀ (s : Shared) (H : Hp) (C : Addr) (cl : List (Str × Addr)) (fp : List Addr), PI (X.blk s H scope (compEnvC scope cl C X.env) fp) tgx1 itx1 (TIs X.K tb it1) := fun s H C cl fp => hi1.i _ _ (cx.blk s H scope cl C fp) _ _ h9
  have r4 : ∀ (s : Shared) (H : Hp) (C : Addr) (cl : List (Str × Addr)) (fp : List Addr), PG (X.blk s H scope (compEnvC scope cl C X.env) fp) tgx1 (TGs1 X.K tb tg1) := fun s H C cl fp => hg1.g _ _ (cx.blk s H scope cl C fp) _ h11
  have r5 : ∀ (s : Shared) (H : Hp) (C : Addr) (cl : List (Str × Addr)) (fp : List Addr), PTs (X.blk s H scope (compEnvC scope cl C X.env) fp) ifs1 (TTs X.K tb t1) := fun s H C cl fp => pts_ofB ht1 (cx.blk s H scope cl C fp) h13
  have r6 : ∀ (s : Shared) (H : Hp) (C : Addr) (cl : List (Str × Addr)) (fp : List Addr), PE (X.blk s H scope (compEnvC scope cl C X.env) fp) elt (TEs X.K tb e) := fun s H C cl fp => he.e _ _ (cx.blk s H scope cl C fp) _ h14
  have q := pe_lc2 (pos := pos) (vs1 := slotsOf tg1) cx.xo.calm cx.nd (hi.i c X cx _ _ h4) bk
    (fun i hm => by rw [ho]; exact of_decide_eq_true (List.all_eq_true.mp h12 i hm)) r1 r2 r3 r4 r5 r6 (fold_of h5) (fun env => fold_of h10)
  rw [ho] at q
  exact PE.mono q fun σ H Q h => cmpr2_go cx.mono (fun j hj => of_decide_eq_true (List.all_eq_true.mp h7 j hj)) h) (fun _ => rfl)
/-- the parts of a comprehension's text -/
theorem lc_parts {kd : Nat} {own : List Nat} {tg it t e : IE} (hg : Snd tb tg) (hi : Snd tb it) (ht : Snd tb t) (he : Snd tb e) {c : Ctx} {X : Cx} (cx : CxOk tb c X) {elt tgx itx : Expr} {ifs : List Expr} {a : Int} {scope : Scope} {pos : Pos}
    (h : (ck (.cmpr kd own tg it t e) c).e (.ListComp elt [⟨tgx, itx, ifs, a⟩] scope pos) = true) :
    a = 0 ∧ BlkOk X.N X.env.scope scope (own.map fun i => (c.N.getD i Str.empty, i)) ∧ (own.map fun i => (c.N.getD i Str.empty, i)).map (·.2) = own ∧ PI X tgx itx (TIs X.K tb it) ∧ (∀ x, foldedSetIterable itx X.env x = pure x) ∧ (∀ j ∈ slotsOf tg, j ∈ own) ∧
      (∀ (s : Shared) (H : Hp) (C : Addr) (cl : List (Str × Addr)) (fp : List Addr), PG (X.blk s H scope (compEnvC scope cl C X.env) fp) tgx (TGs1 X.K tb tg)) ∧
      (∀ (s : Shared) (H : Hp) (C : Addr) (cl : List (Str × Addr)) (fp : List Addr), PTs (X.blk s H scope (compEnvC scope cl C X.env) fp) ifs (TTs X.K tb t)) ∧
      (∀ (s : Shared) (H : Hp) (C : Addr) (cl : List (Str × Addr)) (fp : List Addr), PE (X.blk s H scope (compEnvC scope cl C X.env) fp) elt (TEs X.K tb e)) := by
  obtain ⟨h1, hA⟩ := band h
  obtain ⟨h2, hB⟩ := band hA
  obtain ⟨h3, hC⟩ := band hB
  obtain ⟨h4, hD⟩ := band hC
  obtain ⟨h5, hE⟩ := band hD
  obtain ⟨h6, hF⟩ := band hE
  obtain ⟨h7, h8⟩ := band hF
  refine ⟨of_decide_eq_true h1, by rw [cx.N, cx.sc]; exact blkOk_by h2, ?_, hi.i c X cx _ _ h3, fold_of h4, ?_, fun s H C cl fp => hg.g _ _ (cx.blk s H scope cl C fp) _ h5, fun s H C cl fp => pts_of ht (cx.blk s H scope cl C fp) h7, fun s H C cl fp => he.e _ _ (cx.blk s H scope cl C fp) _ h8⟩
  · rw [List.map_map]
    exact (List.map_congr_left fun _ _ => rfl).trans (List.map_id _)
  · intro j hj
    exact of_decide_eq_true (List.all_eq_true.mp h6 j hj)
theorem lc_form {kd : Nat} {own : List Nat} {tg it t e : IE} {c : Ctx} {x : Expr} (h : (ck (.cmpr kd own tg it t e) c).e x = true) : ∃ elt tgx itx ifs a scope pos, x = .ListComp elt [⟨tgx, itx, ifs, a⟩] scope pos := by
  cases x with
  | ListComp elt gs scope pos =>
    cases gs with
    | nil => exact ff h
    | cons g gs =>
      cases gs with
      | nil =>
        obtain ⟨a, b, c, d⟩ := g
        exact ⟨_, _, _, _, _, _, _, rfl⟩
      | cons _ _ =>
        obtain ⟨a, b, c, d⟩ := g
        exact ff h
  | _ => exact ff h
theorem snd_cmpr (kd : Nat) (own : List Nat) {tg it t e : IE} (hg : Snd tb tg) (hi : Snd tb it) (ht : Snd tb t) (he : Snd tb e) : Snd tb (.cmpr kd own tg it t e) := sndE (f := fun c x => (ck (.cmpr kd own tg it t e) c).e x) (fun c X cx x h => by
  obtain ⟨elt, tgx, itx, ifs, a, scope, pos, rfl⟩ := lc_form h
  obtain ⟨a0, ok, ho, pi, fs, sl, pg, pt, pe⟩ := lc_parts hg hi ht he cx h
  subst a0
  have q := pe_lc (pos := pos) cx.xo.calm cx.nd pi ok pg pt pe fs
  rw [ho] at q
  exact PE.mono q fun σ H Q h => cmpr_go cx.mono sl h) (fun _ => rfl)
/-! ### an item of a displayed dict -/
/-- the list is done (as held_lst's first way, for any object) -/
theorem unhold {K : PySem.W.Frag} {H H1 : Hp} {w w1 : Wd} {st st1 : Sto} {p : Addr} {o : HO} (n : H p = none) (ok : WOk K H w st) (l : LeP p (upd H p o) (w.hold p) st H1 w1 st1) (ok1 : WOk K H1 w1 st1) :
    Le H w st H1 ⟨w1.mu, w1.la, w.F⟩ st1 ∧ WOk K H1 ⟨w1.mu, w1.la, w.F⟩ st1 ∧ ∀ v ev, EVRep K H1 w1 st1 v ev → EVRep K H1 ⟨w1.mu, w1.la, w.F⟩ st1 v ev := by
  have hF : w1.F = fun a => w.F a ∨ a = p := l.F
  have hpF : w1.F p := by rw [hF]; exact .inr rfl
  have nwF : ¬ w.F p := fun q => by
    obtain ⟨⟨u, z⟩, _⟩ := ok.fF p q
    rw [n] at z
    cases z
  have out : ∀ (w' : Wd) (st' : Sto), (∀ a, w'.M st' a → w1.M st1 a) → Fr H w st H1 w' st' := fun w' st' hm a u h m => by
    have z := l.fr a u (by rw [upd_ne (ne_of_none h n)]; exact h) fun q => (hold_M.mp q).elim m (ne_of_none h n)
    exact ⟨z.1, fun q => z.2 (hm a q)⟩
  have fo : ∀ a, w.F a → H1 a = H a := fun a h => by
    have e : a ≠ p := fun e => nwF (by rw [← e]; exact h)
    rw [l.fo a (.inl h) e, upd_ne e]
  have hM : ∀ a, Wd.M ⟨w1.mu, w1.la, w.F⟩ st1 a → w1.M st1 a := fun a q => by
    rcases q with q | q | q
    · exact .inl q
    · exact .inr (.inl q)
    · exact .inr (.inr (by rw [hF]; exact .inl q))
  have cv : Fr H1 w1 st1 H1 ⟨w1.mu, w1.la, w.F⟩ st1 := fun a u h m => ⟨h, fun q => m (hM a q)⟩
  refine ⟨⟨rfl, l.mu, l.la, out _ _ hM, fo⟩, ⟨ok1.lg, ok1.ll, fun i ys h => ?_, fun i ys h => ?_, ok1.fz, ok1.nd, fun a h => ?_⟩, fun v ev r => ?_⟩
  · obtain ⟨a, us, e, z, q⟩ := ok1.g i ys h
    exact ⟨a, us, e, z, q.conv cv⟩
  · obtain ⟨a, us, e, z, q⟩ := ok1.l i ys h
    exact ⟨a, us, e, z, q.conv cv⟩
  · exact ok1.fF a (by rw [hF]; exact .inl h)
  · cases ev with
    | d x => exact Rep.conv cv r
    | lm n => exact r
    | gm n => exact r
    | sc ds =>
      obtain ⟨a, xs, e, f, q⟩ := r
      exact ⟨a, xs, e, f.conv cv, q.conv cv⟩
/-- the pairs' ways -/
def trP (K : PySem.W.Frag) (tb : Tb) : List Str → IE → List (TE × TE)
  | k :: ks, .cons a r => ((fun σ H Q => Q (.str k) H : TE), TEs K tb a) :: trP K tb ks r
  | _, _ => []
structure SndPs (tb : Tb) (ie : IE) : Prop where
  ps : ∀ c X, CxOk tb c X → ∀ pos ks es vs, (keyB ks es = true ∧ ks.length = vs.length) → (ck ie c).l vs = true → PPs X pos es vs (trP X.K tb ks ie)
theorem ps_nil : SndPs tb .nil := ⟨fun c X cx pos ks es vs h1 h => by
  have h : vs.isEmpty = true := h
  cases vs with
  | nil =>
    have e : ks = [] := List.length_eq_zero_iff.mp h1.2
    subst e
    cases es with
    | nil => exact pps_nil
    | cons _ _ => exact ff h1.1
  | cons _ _ => cases h⟩
theorem ps_cons {a r : IE} (ha : Snd tb a) (hr : SndPs tb r) : SndPs tb (.cons a r) := ⟨fun c X cx pos ks es vs h1 h => by
  cases vs with
  | nil => exact ff h
  | cons v vs =>
    have h : (notStar v && ((ck a c).e v && (ck r c).l vs)) = true := h
    obtain ⟨_, hA⟩ := band h
    obtain ⟨h2, h3⟩ := band hA
    obtain ⟨k1, k2⟩ := h1
    unfold keyB at k1
    split at k1
    · cases k2
    · obtain ⟨k1, k3⟩ := band k1
      rw [of_decide_eq_true k1]
      exact pps_cons pe_str (ha.e c X cx _ h2) (hr.ps c X cx pos _ _ _ ⟨k3, by simpa using k2⟩ h3)
    · cases k1⟩
/-- the pairs, one after the other -/
theorem tp_dix (mono : tb.Mono) {K : PySem.W.Frag} {σ : L2.St} {env : En} {c : Ctx} : ∀ (vs : List Expr) (ks : List Str) (r : IE) {H : Hp} {w : Wd} {st : Sto} {k : List EV → Sto → Prop} {Q : List (V × V) → Hp → Prop}, (ck r c).l vs = true → ks.length = vs.length →
    WOk K H w st → EnvRep K H w st σ env → (sem tb r).l env st k → (∀ xs st1, k xs st1 → ∀ us H1 w1, Le H w st H1 w1 st1 → WOk K H1 w1 st1 → EVReps K H1 w1 st1 us xs → Q (List.zip (ks.map V.str) us) H1) → tPairs (trP K tb ks r) σ H Q
  | [], ks, r, H, w, st, k, Q, h, hl, ok, er, s, c => by
    have e : ks = [] := List.length_eq_zero_iff.mp hl
    subst e
    have e : r = .nil := l_nil h
    subst e
    exact c [] st s [] H w Le.refl ok .nil
  | v :: vs, ks, r, H, w, st, k, Q, h, hl, ok, er, s, c => by
    obtain ⟨a, r, rfl, _, _, h3⟩ := l_cons h
    cases ks with
    | nil => cases hl
    | cons k0 ks =>
      show TEs K tb a σ H _
      refine bE mono a ok er s fun ev st1 h1 x H1 w1 le1 ok1 r1 => ?_
      refine tp_dix mono vs ks r h3 (by simpa using hl) ok1 (er.le le1) h1 fun xs st2 q us H2 w2 le2 ok2 r2 => ?_
      exact c (ev :: xs) st2 q (x :: us) H2 w2 (le1.trans le2) ok2 (.cons (r1.le le2) r2)
def kvP (ks : List Str) (vs : List V) : List (Key × V) := (ks.zip vs).map fun q => (Sum.inr q.1, q.2)
theorem kvP_zip : ∀ (ks : List Str) (vs : List V), List.zip (ks.map V.str) vs = (kvP ks vs).map fun kv => (kV kv.1, kv.2)
  | [], _ => rfl
  | _ :: _, [] => rfl
  | k :: ks, v :: vs => by
    show (V.str k, v) :: List.zip (ks.map V.str) vs = (V.str k, v) :: (kvP ks vs).map _
    rw [kvP_zip ks vs]
theorem kvP_keys : ∀ (ks : List Str) (vs : List V) (q : Key × V), q ∈ kvP ks vs → ∃ s ∈ ks, q.1 = Sum.inr s := fun ks vs q h => by
  obtain ⟨p, hp, rfl⟩ := List.mem_map.mp h
  exact ⟨p.1, (List.of_mem_zip hp).1, rfl⟩
theorem merge_kvP : ∀ (ks : List Str) (vs : List V) (acc : List (Key × V)), ks.Nodup → (∀ s ∈ ks, (Sum.inr s : Key) ∉ acc.map (·.1)) → mergeK acc (kvP ks vs) = acc ++ kvP ks vs
  | [], vs, acc, _, _ => by simp [mergeK, kvP]
  | _ :: _, [], acc, _, _ => by simp [mergeK, kvP]
  | k :: ks, v :: vs, acc, h, g => by
    have e : mergeK acc (kvP (k :: ks) (v :: vs)) = mergeK (putK acc (Sum.inr k) v) (kvP ks vs) := rfl
    have h := List.nodup_cons.mp h
    rw [e, put_new (g k (by simp)), merge_kvP ks vs _ h.2 fun p hp z => ?_]
    · rw [List.append_assoc]
      rfl
    · rw [List.map_append, List.mem_append] at z
      rcases z with z | z
      · exact g p (by simp [hp]) z
      · have z : (Sum.inr p : Key) = Sum.inr k := by simpa using z
        injection z with z
        exact h.1 (by rw [← z]; exact hp)
theorem val_kvP {K : PySem.W.Frag} {H : Hp} {M : Addr → Prop} (z : Str) {d : D} : ∀ (ks : List Str) {vs : List V} {ds : List D}, Reps K H M vs ds → (ks.zip ds).lookup z = some d → ∃ v, valV (kvP ks vs) (Sum.inr z) = some v ∧ Rep K H M v d
  | [], _, _, _, h => by cases h
  | _ :: _, _, _, .nil, h => by cases h
  | k :: ks, _, _, .cons (v := v) (vs := vs) (d := d0) (ds := ds) a b, h => by
    have h : List.lookup z ((k, d0) :: ks.zip ds) = some d := h
    by_cases e : k = z
    · subst e
      rw [List.lookup_cons_self] at h
      cases h
      exact ⟨v, valV_pos (p := (Sum.inr k, v)) rfl, a⟩
    · have e1 : (z == k) = false := beq_eq_false_iff_ne.mpr fun q => e q.symm
      rw [List.lookup_cons, e1] at h
      obtain ⟨u, q1, q2⟩ := val_kvP z ks b h
      exact ⟨u, (valV_neg (p := (Sum.inr k, v)) fun q => e (by injection q)).trans q1, q2⟩
theorem keyB_len : ∀ {ks : List Str} {es : List (Option Expr)}, keyB ks es = true → ks.length = es.length
  | ks, es, h => by
    unfold keyB at h
    split at h
    · rfl
    · rw [List.length_cons, List.length_cons, keyB_len (band h).2]
    · cases h
theorem keyB_some : ∀ {ks : List Str} {es : List (Option Expr)}, keyB ks es = true → es.all (·.isSome) = true
  | ks, es, h => by
    unfold keyB at h
    split at h
    · rfl
    · rw [List.all_cons, keyB_some (band h).2]
      rfl
    · cases h
theorem snd_dix (ks : List Str) {r a : IE} (hr : SndPs tb r) (ha : Snd tb a) : Snd tb (.dix ks r a) := sndE (f := fun c e => match e with
      | .Subscript (.Dict es vs _) i _ => keyB ks es && ((decide ks.Nodup && (decide (ks ≠ []) && decide (ks.length ≤ 15))) && (decide (ks.length = vs.length) && (notSlice i && ((ck r c).l vs && (ck a c).e i))))
      | _ => false) (fun c X cx e h => by
  split at h
  · rename_i es vs dp i ip
    obtain ⟨h1, hA⟩ := band h
    obtain ⟨h2, hB⟩ := band hA
    obtain ⟨h2, h3⟩ := band h2
    obtain ⟨h3, h4⟩ := band h3
    obtain ⟨h5, hC⟩ := band hB
    obtain ⟨h6, hD⟩ := band hC
    obtain ⟨h7, h8⟩ := band hD
    have nd := of_decide_eq_true h2
    have hne := of_decide_eq_true h3
    have h15 := of_decide_eq_true h4
    have hl := of_decide_eq_true h5
    have ke := keyB_len h1
    refine PE.mono (pe_dget (by have := cx.xo.hu; omega) (pe_disp (hr.ps c X cx dp ks es vs ⟨h1, hl⟩ h7) (keyB_some h1) (by rw [← ke]; exact hl) (fun z => hne (List.length_eq_zero_iff.mp (by rw [ke, z]; rfl))) (by rw [← ke]; exact h15)) (ha.e c X cx _ h8)
      (plainIx_of h6)) fun σ H Q ⟨w, st, env, ok, er, h⟩ => ?_
    intro p np
    have ok0 := hold_ok (o := .dK []) np ok
    have er0 := hold_env (o := .dK []) np er
    refine tp_dix cx.mono vs ks r h7 hl ok0 er0 h fun xs st1 q us H1 w1 le1 ok1 r1 => ?_
    obtain ⟨ds, rs, q1, q2⟩ := allD_rep r1 q
    have hp0 : H1 p = some (.dK []) := by rw [le1.fo p (.inr rfl)]; exact upd_same
    refine ⟨hp0, kvP ks us, kvP_zip ks us, ?_, ?_⟩
    · unfold kvP
      rw [List.length_map, List.length_zip]
      omega
    rw [merge_kvP ks us [] nd (fun s _ z => by cases z), List.nil_append]
    have hF1 : w1.F p := by rw [le1.F]; exact .inr rfl
    have lp := (LeP.refl.step le1).grow (o := .dK (kvP ks us)) (.inr rfl)
    have ok1' := grow_ok (o := .dK (kvP ks us)) hF1 ok1
    have rs' := rs.conv (grow_fr (o := .dK (kvP ks us)) hF1)
    refine bE cx.mono a ok1' (LeP.env er0 lp) q2 fun ex st2 h2 v2 H2 w2 le2 ok2 r2 => ?_
    have hp : H2 p = some (.dK (kvP ks us)) := by rw [le2.fo p hF1]; exact upd_same
    unfold dixK at h2
    split at h2
    · rename_i z
      cases (show Rep _ _ _ v2 _ from r2)
      split at h2
      · rename_i d hd
        obtain ⟨v, hv, rv⟩ := val_kvP z ks (rs'.le le2) hd
        obtain ⟨L, O, T⟩ := unhold np ok (lp.step le2) ok2
        exact ⟨p, v, rfl, by rw [← hv]; exact DGet.k (k := Sum.inr z) hp, h2 v H2 _ L O (T v (.d d) rv)⟩
      · exact h2.elim
    · exact h2.elim
  · cases h) (fun _ => rfl)
mutual
theorem snd (tb : Tb) : ∀ ie : IE, Snd tb ie
  | .cst d => snd_cst d
  | .var i => snd_var i
  | .glo k => snd_glo k
  | .bin o a b => snd_bin o (snd tb a) (snd tb b)
  | .neg a => snd_neg (snd tb a)
  | .nt a => snd_nt (snd tb a)
  | .cmp o a b => snd_cmp o (snd tb a) (snd tb b)
  | .cmp2 o p a b c => snd_cmp2 o p (snd tb a) (snd tb b) (snd tb c)
  | .isN a => snd_isN (snd tb a)
  | .notN a => snd_notN (snd tb a)
  | .an a b => snd_an (snd tb a) (snd tb b)
  | .oo a b => snd_oo (snd tb a) (snd tb b)
  | .ife t a b => snd_ife (snd tb t) (snd tb a) (snd tb b)
  | .nil => snd_nil
  | .cons a r => snd_cons (snd tb a) (snd tb r)
  | .tup r => snd_tup (snd tb r)
  | .lst kd r => snd_lst kd (snd tb r)
  | .ixc a n => snd_ixc n (snd tb a)
  | .ix a i => snd_ix (snd tb a) (snd tb i)
  | .sl kd a lo hi => snd_sl kd (snd tb a) (snd tb lo) (snd tb hi)
  | .call n r => snd_call n (snd tb r)
  | .blt b kd r => snd_blt b kd (snd tb r)
  | .cmpr kd own tg it t e => snd_cmpr kd own (snd tb tg) (snd tb it) (snd tb t) (snd tb e)
  | .rng r => snd_rng (snd tb r)
  | .enm r => snd_enm (snd tb r)
  | .zp r => snd_zp (snd tb r)
  | .isi a t => snd_isi t (snd tb a)
  | .scons a r => ⟨fun c X cx e h => ff h, fun c X cx e h => ff h, fun c X cx es h => ff h, fun c X cx tg it h => ff h, fun c X cx e h => ff h, fun c X cx es h => ff h, fun c X cx o h => ff h⟩
  | .tupS r => snd_tupS (sndLs tb r)
  | .lstS kd r => snd_lstS kd (sndLs tb r)
  | .srs kd a => snd_srs kd (snd tb a)
  | .srl kd a => snd_srl kd (snd tb a)
  | .lop kd o a b => snd_lop kd o (snd tb a) (snd tb b)
  | .idx a x => snd_idx (snd tb a) (snd tb x)
  | .dget ks a b => snd_dget ks (snd tb a) (snd tb b)
  | .callS n ar r => snd_callS n ar (sndLs tb r)
  | .cmpr2 kd own tg it t tg1 it1 t1 e => snd_cmpr2 kd own (snd tb tg) (snd tb it) (snd tb t) (snd tb tg1) (snd tb it1) (snd tb t1) (snd tb e)
  | .isB neg a b => snd_isB neg (snd tb a) (snd tb b)
  | .sri kd a => snd_sri kd (snd tb a)
  | .ssi kd a => snd_ssi kd (snd tb a)
  | .callG n r => snd_callG n (snd tb r)
  | .rgv tp kd a => snd_rgv tp kd (snd tb a)
  | .srd kd a => snd_srd kd (snd tb a)
  | .callP n dsp a r => snd_callP n dsp (snd tb a) (snd tb r)
  | .rev kd a => snd_rev kd (snd tb a)
  | .dix ks r a => snd_dix ks (sndPs tb r) (snd tb a)
theorem sndLs (tb : Tb) : ∀ ie : IE, SndLs tb ie
  | .nil => ls_nil
  | .cons a r => ls_cons (snd tb a) (sndLs tb r)
  | .scons a r => ls_scons (snd tb a) (sndLs tb r)
  | .cst _ => ⟨fun c X cx es h => ff h⟩
  | .var _ => ⟨fun c X cx es h => ff h⟩
  | .glo _ => ⟨fun c X cx es h => ff h⟩
  | .bin _ _ _ => ⟨fun c X cx es h => ff h⟩
  | .neg _ => ⟨fun c X cx es h => ff h⟩
  | .nt _ => ⟨fun c X cx es h => ff h⟩
  | .cmp _ _ _ => ⟨fun c X cx es h => ff h⟩
  | .cmp2 _ _ _ _ _ => ⟨fun c X cx es h => ff h⟩
  | .isN _ => ⟨fun c X cx es h => ff h⟩
  | .notN _ => ⟨fun c X cx es h => ff h⟩
  | .an _ _ => ⟨fun c X cx es h => ff h⟩
  | .oo _ _ => ⟨fun c X cx es h => ff h⟩
  | .ife _ _ _ => ⟨fun c X cx es h => ff h⟩
  | .tup _ => ⟨fun c X cx es h => ff h⟩
  | .lst _ _ => ⟨fun c X cx es h => ff h⟩
  | .ixc _ _ => ⟨fun c X cx es h => ff h⟩
  | .ix _ _ => ⟨fun c X cx es h => ff h⟩
  | .sl _ _ _ _ => ⟨fun c X cx es h => ff h⟩
  | .call _ _ => ⟨fun c X cx es h => ff h⟩
  | .blt _ _ _ => ⟨fun c X cx es h => ff h⟩
  | .cmpr _ _ _ _ _ _ => ⟨fun c X cx es h => ff h⟩
  | .rng _ => ⟨fun c X cx es h => ff h⟩
  | .enm _ => ⟨fun c X cx es h => ff h⟩
  | .zp _ => ⟨fun c X cx es h => ff h⟩
  | .isi _ _ => ⟨fun c X cx es h => ff h⟩
  | .tupS _ => ⟨fun c X cx es h => ff h⟩
  | .lstS _ _ => ⟨fun c X cx es h => ff h⟩
  | .srs _ _ => ⟨fun c X cx es h => ff h⟩
  | .srl _ _ => ⟨fun c X cx es h => ff h⟩
  | .lop _ _ _ _ => ⟨fun c X cx es h => ff h⟩
  | .idx _ _ => ⟨fun c X cx es h => ff h⟩
  | .dget _ _ _ => ⟨fun c X cx es h => ff h⟩
  | .callS _ _ _ => ⟨fun c X cx es h => ff h⟩
  | .cmpr2 _ _ _ _ _ _ _ _ _ => ⟨fun c X cx es h => ff h⟩
  | .isB _ _ _ => ⟨fun c X cx es h => ff h⟩
  | .sri _ _ => ⟨fun c X cx es h => ff h⟩
  | .ssi _ _ => ⟨fun c X cx es h => ff h⟩
  | .rgv _ _ _ => ⟨fun c X cx es h => ff h⟩
  | .srd _ _ => ⟨fun c X cx es h => ff h⟩
  | .callP _ _ _ _ => ⟨fun c X cx es h => ff h⟩
  | .rev _ _ => ⟨fun c X cx es h => ff h⟩
  | .dix _ _ _ => ⟨fun c X cx es h => ff h⟩
  | .callG _ _ => ⟨fun c X cx es h => ff h⟩
theorem sndPs (tb : Tb) : ∀ ie : IE, SndPs tb ie
  | .nil => ps_nil
  | .cons a r => ps_cons (snd tb a) (sndPs tb r)
  | .scons _ _ => ⟨fun c X cx pos ks es vs h1 h => ff h⟩
  | .cst _ => ⟨fun c X cx pos ks es vs h1 h => ff h⟩
  | .var _ => ⟨fun c X cx pos ks es vs h1 h => ff h⟩
  | .glo _ => ⟨fun c X cx pos ks es vs h1 h => ff h⟩
  | .bin _ _ _ => ⟨fun c X cx pos ks es vs h1 h => ff h⟩
  | .neg _ => ⟨fun c X cx pos ks es vs h1 h => ff h⟩
  | .nt _ => ⟨fun c X cx pos ks es vs h1 h => ff h⟩
  | .cmp _ _ _ => ⟨fun c X cx pos ks es vs h1 h => ff h⟩
  | .cmp2 _ _ _ _ _ => ⟨fun c X cx pos ks es vs h1 h => ff h⟩
  | .isN _ => ⟨fun c X cx pos ks es vs h1 h => ff h⟩
  | .notN _ => ⟨fun c X cx pos ks es vs h1 h => ff h⟩
  | .an _ _ => ⟨fun c X cx pos ks es vs h1 h => ff h⟩
  | .oo _ _ => ⟨fun c X cx pos ks es vs h1 h => ff h⟩
  | .ife _ _ _ => ⟨fun c X cx pos ks es vs h1 h => ff h⟩
  | .tup _ => ⟨fun c X cx pos ks es vs h1 h => ff h⟩
  | .lst _ _ => ⟨fun c X cx pos ks es vs h1 h => ff h⟩
  | .ixc _ _ => ⟨fun c X cx pos ks es vs h1 h => ff h⟩
  | .ix _ _ => ⟨fun c X cx pos ks es vs h1 h => ff h⟩
  | .sl _ _ _ _ => ⟨fun c X cx pos ks es vs h1 h => ff h⟩
  | .call _ _ => ⟨fun c X cx pos ks es vs h1 h => ff h⟩
  | .blt _ _ _ => ⟨fun c X cx pos ks es vs h1 h => ff h⟩
  | .cmpr _ _ _ _ _ _ => ⟨fun c X cx pos ks es vs h1 h => ff h⟩
  | .rng _ => ⟨fun c X cx pos ks es vs h1 h => ff h⟩
  | .enm _ => ⟨fun c X cx pos ks es vs h1 h => ff h⟩
  | .zp _ => ⟨fun c X cx pos ks es vs h1 h => ff h⟩
  | .isi _ _ => ⟨fun c X cx pos ks es vs h1 h => ff h⟩
  | .tupS _ => ⟨fun c X cx pos ks es vs h1 h => ff h⟩
  | .lstS _ _ => ⟨fun c X cx pos ks es vs h1 h => ff h⟩
  | .srs _ _ => ⟨fun c X cx pos ks es vs h1 h => ff h⟩
  | .srl _ _ => ⟨fun c X cx pos ks es vs h1 h => ff h⟩
  | .lop _ _ _ _ => ⟨fun c X cx pos ks es vs h1 h => ff h⟩
  | .idx _ _ => ⟨fun c X cx pos ks es vs h1 h => ff h⟩
  | .dget _ _ _ => ⟨fun c X cx pos ks es vs h1 h => ff h⟩
  | .callS _ _ _ => ⟨fun c X cx pos ks es vs h1 h => ff h⟩
  | .cmpr2 _ _ _ _ _ _ _ _ _ => ⟨fun c X cx pos ks es vs h1 h => ff h⟩
  | .isB _ _ _ => ⟨fun c X cx pos ks es vs h1 h => ff h⟩
  | .sri _ _ => ⟨fun c X cx pos ks es vs h1 h => ff h⟩
  | .ssi _ _ => ⟨fun c X cx pos ks es vs h1 h => ff h⟩
  | .rgv _ _ _ => ⟨fun c X cx pos ks es vs h1 h => ff h⟩
  | .srd _ _ => ⟨fun c X cx pos ks es vs h1 h => ff h⟩
  | .callP _ _ _ _ => ⟨fun c X cx pos ks es vs h1 h => ff h⟩
  | .rev _ _ => ⟨fun c X cx pos ks es vs h1 h => ff h⟩
  | .dix _ _ _ => ⟨fun c X cx pos ks es vs h1 h => ff h⟩
  | .callG _ _ => ⟨fun c X cx pos ks es vs h1 h => ff h⟩
end
end
end VI

/-! VI13: the check of statements; parts of its soundness. -/
namespace VI
open PySem PySem.Spec PyProof.Rows L2
def notComp : Expr → Bool
  | .ListComp .. => false
  | .SetComp .. => false
  | .DictComp .. => false
  | _ => true
def funB (sc : Scope) : Bool := match sc.kind with
  | .function => true
  | _ => false
def swN (sc : Scope) (line : Nat) : Expr → Option Str
  | .Name id pos => if sc.names.lookup id == some .local && pos.line == line then some id else none
  | _ => none
/-- none: not known; some none: from the left; some (some ..): from the right -/
def swB2 (sc : Scope) (ts vs : List Expr) : Option (Option (List Str)) :=
  if (!(ts.length == 2 || ts.length == 3) || vs.length != ts.length) = true then some none
  else if (vs.any fun | .Starred .. => true | _ => false) = true then some none
  else if ((ts.filterMap (swN sc ((ts.head?.map (·.pos.line)).getD 0))).length != ts.length || (ts.filterMap (swN sc ((ts.head?.map (·.pos.line)).getD 0))).eraseDups.length != (ts.filterMap (swN sc ((ts.head?.map (·.pos.line)).getD 0))).length) = true then some none
  else if (vs.all (foldedForSure 8)) = true then some none
  else if (vs.all (constantsAlone 8)) = true then none
  else some (some (ts.filterMap (swN sc ((ts.head?.map (·.pos.line)).getD 0))))
def swB (sc : Scope) (t v : Expr) : Option (Option (List Str)) := match t with
  | .Tuple ts _ _ => (match v with
    | .Tuple vs _ _ => swB2 sc ts vs
    | _ => some none)
  | .List _ _ => none
  | _ => some none
theorem swaps_of {e : Expr} {t : Option Expr} {l : Nat} {env : Env} (h : notComp e = true) : swapsWith e t l env = pure false := by
  cases e <;> first | rfl | cases h
theorem swN_eq (env : Env) (line : Nat) : (fun (x : Expr) => match x with
    | .Name id pos => if env.kindOf id == some .local && pos.line == line then some id else none
    | _ => none) = swN env.scope line := by
  funext x
  cases x <;> rfl
theorem stores_of {t v : Expr} {env : Env} {r : Option (List Str)} (hf : funB env.scope = true) (h : swB env.scope t v = some r) : swappedStores [t] v env = pure r := by
  have hk : env.scope.kind = .function := by
    unfold funB at hf
    split at hf
    · assumption
    · cases hf
  have hb : env.blockKind = .function := by
    unfold Env.blockKind
    rw [hk]
    rfl
  cases t with
  | Tuple ts k p =>
    cases v with
    | Tuple vs k2 p2 =>
      have h : swB2 env.scope ts vs = some r := h
      unfold swB2 at h
      unfold swappedStores
      simp only [hb]
      have e1 : ((ScopeKind.function != ScopeKind.function) = false) := rfl
      simp only [e1, Bool.or_false]
      split at h
      · cases h
        rename_i h1
        exact if_pos h1
      · rename_i h1
        refine (if_neg h1).trans ?_
        split at h
        · cases h
          rename_i h2
          try simp only [pure_bind]
          exact if_pos h2
        · rename_i h2
          try simp only [pure_bind]
          refine (if_neg h2).trans ?_
          try simp only [pure_bind, swN_eq]
          split at h
          · cases h
            rename_i h3
            exact if_pos h3
          · rename_i h3
            refine (if_neg h3).trans ?_
            try simp only [pure_bind]
            split at h
            · cases h
              rename_i h4
              exact if_pos h4
            · rename_i h4
              refine (if_neg h4).trans ?_
              try simp only [pure_bind]
              split at h
              · cases h
              · cases h
                rename_i h5
                refine (if_neg h5).trans ?_
                try rfl
    | _ => cases h; rfl
  | List ts p => cases h
  | _ => cases h; rfl
/-! ### the check -/
def isLc : Expr → Bool
  | .ListComp .. => true
  | _ => false
def noSw : Expr → Expr → Bool
  | .Tuple _ _ _, _ => true
  | _, vx => notComp vx
def cA (t e : IE) (c : Ctx) (tx vx : Expr) : Bool := notStar tx && (noSw tx vx && ((match swB c.sc tx vx with
  | some none => true
  | _ => false) && (funB c.sc && ((ck t c).g tx && (ck e c).e vx))))
def cC (t e : IE) (c : Ctx) (tx vx : Expr) : Bool := match t, e, tx, vx with
  | .var i, .cmpr kd own tg it tt el, .Name y py, .ListComp elt [⟨tgx, itx, ifs, a⟩] scope pos => decide (c.N[i]? = some y) && (isLoc c.sc y && ((py.line == pos.line) && (!(scope.names.any fun (n, k) => n == y && (k == .local || k == .cell)) && (funB c.sc && (ck (.cmpr kd own tg it tt el) c).e (.ListComp elt [⟨tgx, itx, ifs, a⟩] scope pos)))))
  | _, _, _, _ => false
def cC2 (t e : IE) (c : Ctx) (tx vx : Expr) : Bool := match t, e, tx, vx with
  | .var i, .cmpr2 kd own tg it tt tg1 it1 t1 el, .Name y py, .ListComp elt [⟨tgx, itx, ifs, a⟩, ⟨tgx1, itx1, ifs1, a1⟩] scope pos => decide (c.N[i]? = some y) && (isLoc c.sc y && ((py.line == pos.line) && (!(scope.names.any fun (n, k) => n == y && (k == .local || k == .cell)) && (funB c.sc && (ck (.cmpr2 kd own tg it tt tg1 it1 t1 el) c).e (.ListComp elt [⟨tgx, itx, ifs, a⟩, ⟨tgx1, itx1, ifs1, a1⟩] scope pos)))))
  | _, _, _, _ => false
def cB2 (t e : IE) (c : Ctx) (tx vx : Expr) : Bool := match t, e, tx, vx with
  | .tup (.cons (.var i) (.cons (.var j) .nil)), .tup r, .Tuple [.Name x px, .Name y py] kt pt, .Tuple [a, b] k2 pt2 => decide (c.N[i]? = some x) && (decide (c.N[j]? = some y) && (decide (i ≠ j) && (isLoc c.sc x && (isLoc c.sc y && ((ck r c).l [a, b] && (decide (swB c.sc (.Tuple [.Name x px, .Name y py] kt pt) (.Tuple [a, b] k2 pt2) = some (some [x, y])) && funB c.sc))))))
  | _, _, _, _ => false
def cB3 (t e : IE) (c : Ctx) (tx vx : Expr) : Bool := match t, e, tx, vx with
  | .tup (.cons (.var i) (.cons (.var j) (.cons (.var l) .nil))), .tup r, .Tuple [.Name x px, .Name y py, .Name z pz] kt pt, .Tuple [a, b, d] k2 pt2 => decide (c.N[i]? = some x) && (decide (c.N[j]? = some y) && (decide (c.N[l]? = some z) && (decide (i ≠ j) && (decide (i ≠ l) && (decide (j ≠ l) && (isLoc c.sc x && (isLoc c.sc y && (isLoc c.sc z && ((ck r c).l [a, b, d] &&
      (decide (swB c.sc (.Tuple [.Name x px, .Name y py, .Name z pz] kt pt) (.Tuple [a, b, d] k2 pt2) = some (some [x, y, z])) && funB c.sc))))))))))
  | _, _, _, _ => false
def lcB (c : Ctx) (x : Str) : Bool := locB c.sc x && (c.fn x || isLoc c.sc x)
def cB4 (is : List Nat) (r : IE) (c : Ctx) (tx vx : Expr) : Bool := match is, tx, vx with
  | [i, j, l, m], .Tuple [.Name x px, .Name y py, .Name z pz, .Name u pu] kt pt, .Tuple es k2 pt2 => decide (c.N[i]? = some x) && (decide (c.N[j]? = some y) && (decide (c.N[l]? = some z) && (decide (c.N[m]? = some u) && (lcB c x && (lcB c y && (lcB c z && (lcB c u && ((ck r c).l es && (decide (es.length = 4) && (decide (swB c.sc (.Tuple [.Name x px, .Name y py, .Name z pz, .Name u pu] kt pt) (.Tuple es k2 pt2) = some none) && funB c.sc))))))))))
  | _, _, _ => false
structure CKS where
  s : Stmt → Bool
  ss : List Stmt → Bool
def one (f : Stmt → Bool) : CKS := ⟨f, fun ss => match ss with
  | [x] => f x
  | _ => false⟩
def meth (name : Str) (a e : IE) (c : Ctx) : Stmt → Bool
  | .Expr (.Call (.Attribute o m ap) [x] [] cp) _ => decide (m = name) && (notCall o && ((ap.endLine == cp.line) && (notStar x && ((ck a c).e o && (ck e c).e x))))
  | _ => false
def meth2 (name : Str) (a i e : IE) (c : Ctx) : Stmt → Bool
  | .Expr (.Call (.Attribute o m ap) [j, x] [] cp) _ => decide (m = name) && (notCall o && ((ap.endLine == cp.line) && (notStar j && (notStar x && ((ck a c).e o && ((ck i c).e j && (ck e c).e x))))))
  | _ => false
def meth0 (name : Str) (a : IE) (c : Ctx) : Stmt → Bool
  | .Expr (.Call (.Attribute o m ap) [] [] cp) _ => decide (m = name) && (notCall o && ((ap.endLine == cp.line) && (ck a c).e o))
  | _ => false
def isFr : IS → Option Nat
  | .freeze i => some i
  | _ => none
def ckS : IS → Ctx → CKS
  | .skip, c => ⟨fun x => match x with
      | .Pass _ => true
      | .Expr (.Constant (.str _) _ _) _ => true
      | _ => false, fun ss => ss.isEmpty⟩
  | .seq a b, c => ⟨fun _ => false, fun ss => match isFr a with
      | some _ => (ckS b c).ss ss
      | none => (match ss with
        | x :: r => (ckS a c).s x && (ckS b c).ss r
        | [] => false)⟩
  | .asg t e, c => one fun x => match x with
      | .Assign [tx] vx _ => cA t e c tx vx || (cC t e c tx vx || (cB2 t e c tx vx || (cB3 t e c tx vx || cC2 t e c tx vx)))
      | _ => false
  | .aug o i e, c => one fun x => match x with
      | .AugAssign (.Name y _) op v _ => decide (op = opA o) && (decide (c.N[i]? = some y) && (locB c.sc y && ((c.fn y || isLoc c.sc y) && (ck e c).e v)))
      | _ => false
  | .augS o a i e, c => one fun x => match x with
      | .AugAssign (.Subscript ox ix _) op v _ => decide (op = opA o) && (notSlice ix && ((ck a c).e ox && ((ck i c).e ix && (ck e c).e v)))
      | _ => false
  | .setI a i e, c => one fun x => match x with
      | .Assign [.Subscript ox ix _] v _ => notComp v && (notSlice ix && ((ck a c).e ox && ((ck i c).e ix && (ck e c).e v)))
      | _ => false
  | .app a e, c => one (meth "append" a e c)
  | .ext a e, c => one (meth "extend" a e c)
  | .ins a i e, c => one (meth2 "insert" a i e c)
  | .clr a, c => one (meth0 "clear" a c)
  | .exp e, c => one fun x => match x with
      | .Expr v _ => notComp v && (ck e c).e v
      | _ => false
  | .ifs t a b, c => one fun x => match x with
      | .If q p r _ => (ck t c).t q && ((ckS a c).ss p && (ckS b c).ss r)
      | _ => false
  | .whl t b, c => one fun x => match x with
      | .While q p [] _ => (ck t c).t q && (ckS b c).ss p
      | _ => false
  | .fr t it b, c => one fun x => match x with
      | .For tx ix p [] _ => notSet ix && ((ck it c).i tx ix && ((ck t c).g tx && (ckS b c).ss p))
      | _ => false
  | .ret e, c => one fun x => match x with
      | .Return (some v) _ => (ck e c).e v
      | _ => false
  | .ret0, _ => one fun x => match x with
      | .Return none _ => true
      | _ => false
  | .brk, _ => one fun x => match x with
      | .Break _ => true
      | _ => false
  | .cont, _ => one fun x => match x with
      | .Continue _ => true
      | _ => false
  | .never, _ => ⟨fun _ => true, fun _ => true⟩
  | .par is r, c => one fun x => match x with
      | .Assign [tx] vx _ => (match is with
        | [i, j] => cB2 (.tup (.cons (.var i) (.cons (.var j) .nil))) (.tup r) c tx vx
        | [i, j, l] => cB3 (.tup (.cons (.var i) (.cons (.var j) (.cons (.var l) .nil)))) (.tup r) c tx vx
        | [i, j, l, m] => cB4 [i, j, l, m] r c tx vx
        | _ => false)
      | _ => false
  | .freeze _, _ => ⟨fun _ => false, fun _ => false⟩
/-! ### the reading -/
section
variable (K : PySem.W.Frag) (tb : Tb) (b : IS)
abbrev ksOf (D : Ends) (H : Hp) (w : Wd) (st : Sto) : KS where
  nx := fun env' st' => ∀ σ' H' w', Le H w st H' w' st' → WOk K H' w' st' → EnvRep K H' w' st' σ' env' → D.nx σ' H'
  rt := PostW K H w st D.rt
  bk := fun env' st' => ∀ σ' H' w', Le H w st H' w' st' → WOk K H' w' st' → EnvRep K H' w' st' σ' env' → D.bk σ' H'
  ct := fun env' st' => ∀ σ' H' w', Le H w st H' w' st' → WOk K H' w' st' → EnvRep K H' w' st' σ' env' → D.ct σ' H'
abbrev TSs : TS := fun D σ H => ∃ w st env, WOk K H w st ∧ EnvRep K H w st σ env ∧ semS tb b env st (ksOf K D H w st)
end
section
variable {K : PySem.W.Frag} {tb : Tb} {H H1 : Hp} {w w1 : Wd} {st st1 : Sto} {D : Ends}
theorem ksOf_le (le : Le H w st H1 w1 st1) : (ksOf K D H w st).Le (ksOf K D H1 w1 st1) :=
  ⟨fun e s h σ' H' w' l => h σ' H' w' (le.trans l), fun e s h v H' w' l => h v H' w' (le.trans l), fun e s h σ' H' w' l => h σ' H' w' (le.trans l), fun e s h σ' H' w' l => h σ' H' w' (le.trans l)⟩
/-- on from a later world -/
theorem on_le {b : IS} {σ : L2.St} {env : En} (ht : tb.Mono) (le : Le H w st H1 w1 st1) (ok : WOk K H1 w1 st1) (er : EnvRep K H1 w1 st1 σ env) (h : semS tb b env st1 (ksOf K D H w st)) : TSs K tb b D σ H1 :=
  ⟨w1, st1, env, ok, er, semS_mono ht b _ _ _ _ (ksOf_le le) h⟩
theorem freeze_ok {n : Nat} {a : Addr} {xs : List V} {ds : List VI.D} (ok : WOk K H w st) (hl : st.l[n]? = some (some ds)) (ha : w.la[n]? = some a) :
    Le H w st H w ⟨st.g, st.l.set n none⟩ ∧ WOk K H w ⟨st.g, st.l.set n none⟩ ∧ Rep K H (w.M ⟨st.g, st.l.set n none⟩) (.ref a) (.list ds) := by
  have hn : n < st.l.length := (List.getElem?_eq_some_iff.mp hl).1
  have hM : ∀ b, w.M ⟨st.g, st.l.set n none⟩ b → w.M st b := fun b q => by
    rcases q with q | ⟨i, ys, q, q2⟩ | q
    · exact .inl q
    · have q2 : (st.l.set n none)[i]? = some (some ys) := q2
      by_cases e : n = i
      · subst e
        rw [List.getElem?_set_self hn] at q2
        cases q2
      · rw [List.getElem?_set_ne e] at q2
        exact .inr (.inl ⟨i, ys, q, q2⟩)
    · exact .inr (.inr q)
  have fr : Fr H w st H w ⟨st.g, st.l.set n none⟩ := fun b o h m => ⟨h, fun q => m (hM b q)⟩
  have hmem : a ∈ w.la := List.mem_iff_getElem?.mpr ⟨n, ha⟩
  have na : ¬ w.M ⟨st.g, st.l.set n none⟩ a := fun q => by
    rcases q with q | ⟨i, ys, q, q2⟩ | q
    · exact nodup_parts ok.nd q hmem
    · have e : n = i := nodup_ix (ok.nd.sublist (List.sublist_append_right _ _)) ha q
      subst e
      have q2 : (st.l.set n none)[n]? = some (some ys) := q2
      rw [List.getElem?_set_self hn] at q2
      cases q2
    · exact (ok.fF a q).2.2 hmem
  obtain ⟨a', vs, e, z, r⟩ := ok.l n ds hl
  rw [ha] at e
  cases e
  refine ⟨⟨rfl, ⟨[], by simp⟩, ⟨[], by simp⟩, fr, fun _ _ => rfl⟩, ⟨ok.lg, by rw [ok.ll]; simp, fun i ys h => ?_, fun i ys h => ?_, fun i b h e => ?_, ok.nd, ok.fF⟩, .lst z na (r.conv fr)⟩
  · obtain ⟨b, us, e, z, q⟩ := ok.g i ys h
    exact ⟨b, us, e, z, q.conv fr⟩
  · have h : (st.l.set n none)[i]? = some (some ys) := h
    by_cases e : n = i
    · subst e
      rw [List.getElem?_set_self hn] at h
      cases h
    · rw [List.getElem?_set_ne e] at h
      obtain ⟨b, us, e, z, q⟩ := ok.l i ys h
      exact ⟨b, us, e, z, q.conv fr⟩
  · have h : (st.l.set n none)[i]? = some none := h
    by_cases e2 : n = i
    · subst e2
      rw [ha] at e
      cases e
      exact ⟨vs, z⟩
    · rw [List.getElem?_set_ne e2] at h
      exact ok.fz i b h e
theorem set_self {σ : L2.St} {i : Nat} {v : V} (h : σ[i]? = some (some v)) : σ.set i (some v) = σ := by
  refine List.ext_getElem? fun j => ?_
  by_cases e : i = j
  · subst e
    rw [List.getElem?_set_self (List.getElem?_eq_some_iff.mp h).1, h]
  · rw [List.getElem?_set_ne e]
/-- a list that may change gets new items -/
theorem set_ok {p : Addr} {us : List V} {ys : List VI.D} {st' : Sto} (ok : WOk K H w st) (hM : ∀ a, w.M st' a ↔ w.M st a) (hlg : st'.g.length = st.g.length) (hll : st'.l.length = st.l.length) (hp : w.M st p) (hnF : ¬ w.F p)
    (hg : ∀ (n : Nat) xs, st'.g[n]? = some xs → (w.mu[n]? = some p ∧ xs = ys) ∨ (w.mu[n]? ≠ some p ∧ st.g[n]? = some xs)) (hl : ∀ (n : Nat) xs, st'.l[n]? = some (some xs) → (w.la[n]? = some p ∧ xs = ys) ∨ (w.la[n]? ≠ some p ∧ st.l[n]? = some (some xs))) (hz : ∀ (n : Nat), st'.l[n]? = some none → st.l[n]? = some none)
    (hpz : ∀ (n : Nat), st.l[n]? = some none → w.la[n]? ≠ some p) (r : Reps K H (w.M st) us ys) : Le H w st (upd H p (.lst us)) w st' ∧ WOk K (upd H p (.lst us)) w st' := by
  have fr : Fr H w st (upd H p (.lst us)) w st' := fun a o h m => ⟨by rw [upd_ne fun e => m (by rw [e]; exact hp)]; exact h, fun q => m ((hM a).mp q)⟩
  refine ⟨⟨rfl, ⟨[], by simp⟩, ⟨[], by simp⟩, fr, fun a h => by rw [upd_ne fun e => hnF (by rw [← e]; exact h)]⟩, ⟨by rw [hlg]; exact ok.lg, by rw [hll]; exact ok.ll, fun i xs h => ?_, fun i xs h => ?_, fun i a h e => ?_, ok.nd, fun a h => ?_⟩⟩
  · rcases hg i xs h with ⟨h1, h2⟩ | ⟨h1, h2⟩
    · subst h2
      exact ⟨p, us, h1, upd_same, r.conv fr⟩
    · obtain ⟨a, vs, e, z, q⟩ := ok.g i xs h2
      exact ⟨a, vs, e, by rw [upd_ne fun q => h1 (by rw [← q]; exact e)]; exact z, q.conv fr⟩
  · rcases hl i xs h with ⟨h1, h2⟩ | ⟨h1, h2⟩
    · subst h2
      exact ⟨p, us, h1, upd_same, r.conv fr⟩
    · obtain ⟨a, vs, e, z, q⟩ := ok.l i xs h2
      exact ⟨a, vs, e, by rw [upd_ne fun q => h1 (by rw [← q]; exact e)]; exact z, q.conv fr⟩
  · have h' := hz i h
    obtain ⟨vs, z⟩ := ok.fz i a h' e
    exact ⟨vs, by rw [upd_ne fun q => hpz i h' (by rw [← q]; exact e)]; exact z⟩
  · obtain ⟨⟨o, z⟩, q⟩ := ok.fF a h
    exact ⟨⟨o, by rw [upd_ne fun e => hnF (by rw [← e]; exact h)]; exact z⟩, q⟩
theorem set_rep (ok : WOk K H w st) {v : V} {ev : EV} (r : EVRep K H w st v ev) {f : List VI.D → (List VI.D → Prop) → Prop} {k : Sto → Prop} (h : setS ev st f k) :
    ∃ (p : Addr) (vs : List V) (ds : List VI.D) (up : List VI.D → Sto), v = .ref p ∧ H p = some (.lst vs) ∧ Reps K H (w.M st) vs ds ∧ f ds (fun ys => k (up ys)) ∧ ∀ us ys, Reps K H (w.M st) us ys → Le H w st (upd H p (.lst us)) w (up ys) ∧ WOk K (upd H p (.lst us)) w (up ys) := by
  cases ev with
  | d x => exact h.elim
  | sc x => exact h.elim
  | lm n =>
    have h : (match st.l[n]? with
      | some (some xs) => f xs fun ys => k ⟨st.g, st.l.set n (some ys)⟩
      | _ => False) := h
    split at h
    · rename_i xs hx
      obtain ⟨a, rfl, ha⟩ := r
      obtain ⟨a', vs, e, z, q⟩ := ok.l n xs hx
      rw [ha] at e
      cases e
      have hn : n < st.l.length := (List.getElem?_eq_some_iff.mp hx).1
      have hmem : a ∈ w.la := List.mem_iff_getElem?.mpr ⟨n, ha⟩
      have hla : w.la.Nodup := ok.nd.sublist (List.sublist_append_right _ _)
      refine ⟨a, vs, xs, _, rfl, z, q, h, fun us ys rs => set_ok ok (fun b => ?_) rfl (by simp) (.inr (.inl ⟨n, xs, ha, hx⟩)) (fun q => (ok.fF a q).2.2 hmem) (fun i zs hz => .inr ⟨fun e => nodup_parts ok.nd (List.mem_iff_getElem?.mpr ⟨i, e⟩) hmem, hz⟩) (fun i zs hz => ?_) (fun i hz => ?_) (fun i hz e => ?_) rs⟩
      · constructor
        · rintro (g | ⟨i, zs, g, g2⟩ | g)
          · exact .inl g
          · have g2 : (st.l.set n (some ys))[i]? = some (some zs) := g2
            by_cases e : n = i
            · subst e
              exact .inr (.inl ⟨n, xs, g, hx⟩)
            · rw [List.getElem?_set_ne e] at g2
              exact .inr (.inl ⟨i, zs, g, g2⟩)
          · exact .inr (.inr g)
        · rintro (g | ⟨i, zs, g, g2⟩ | g)
          · exact .inl g
          · by_cases e : n = i
            · subst e
              exact .inr (.inl ⟨n, ys, g, List.getElem?_set_self hn⟩)
            · exact .inr (.inl ⟨i, zs, g, (List.getElem?_set_ne e).trans g2⟩)
          · exact .inr (.inr g)
      · have hz : (st.l.set n (some ys))[i]? = some (some zs) := hz
        by_cases e : n = i
        · subst e
          rw [List.getElem?_set_self hn] at hz
          cases hz
          exact .inl ⟨ha, rfl⟩
        · rw [List.getElem?_set_ne e] at hz
          exact .inr ⟨fun q => e (nodup_ix hla ha q), hz⟩
      · have hz : (st.l.set n (some ys))[i]? = some none := hz
        by_cases e : n = i
        · subst e
          rw [List.getElem?_set_self hn] at hz
          cases hz
        · rw [List.getElem?_set_ne e] at hz
          exact hz
      · have e2 : n = i := nodup_ix hla ha e
        subst e2
        rw [hx] at hz
        cases hz
    · exact h.elim
  | gm n =>
    have h : (match st.g[n]? with
      | some xs => f xs fun ys => k ⟨st.g.set n ys, st.l⟩
      | none => False) := h
    split at h
    · rename_i xs hx
      obtain ⟨a, rfl, ha⟩ := r
      obtain ⟨a', vs, e, z, q⟩ := ok.g n xs hx
      rw [ha] at e
      cases e
      have hn : n < st.g.length := (List.getElem?_eq_some_iff.mp hx).1
      have hmem : a ∈ w.mu := List.mem_iff_getElem?.mpr ⟨n, ha⟩
      have hmu : w.mu.Nodup := ok.nd.sublist (List.sublist_append_left _ _)
      refine ⟨a, vs, xs, _, rfl, z, q, h, fun us ys rs => set_ok ok (fun b => Iff.rfl) (by simp) rfl (.inl hmem) (fun q => (ok.fF a q).2.1 hmem) (fun i zs hz => ?_) (fun i zs hz => .inr ⟨fun e => nodup_parts ok.nd hmem (List.mem_iff_getElem?.mpr ⟨i, e⟩), hz⟩) (fun i hz => hz) (fun i hz e => nodup_parts ok.nd hmem (List.mem_iff_getElem?.mpr ⟨i, e⟩)) rs⟩
      have hz : (st.g.set n ys)[i]? = some zs := hz
      by_cases e : n = i
      · subst e
        rw [List.getElem?_set_self hn] at hz
        cases hz
        exact .inl ⟨ha, rfl⟩
      · rw [List.getElem?_set_ne e] at hz
        exact .inr ⟨fun q => e (nodup_ix hmu ha q), hz⟩
    · exact h.elim
end
end VI

/-! VI14: the soundness of statements. -/
namespace VI
open PySem PySem.Spec PyProof.Rows L2
/-- a list's item -/
def rGetL (K : PySem.W.Frag) : V → V → Hp → VK → Prop := fun x y H Q => ∃ p xs i v, x = .ref p ∧ y = .int i ∧ SqL K H p xs ∧ atI xs i = some v ∧ Q v H
theorem get_list {X : Cx} : PGet X (rGetL X.K) := by
  intro pins s σ H x y v u Q I rx ry h
  obtain ⟨p, xs, i, z, rfl, rfl, hq, he, q⟩ := h
  cases rx
  obtain ⟨t, rfl⟩ := ry
  obtain ⟨its, r, pl, hz⟩ := I.list hq
  obtain ⟨j, h1, h2, h3, h4, h5⟩ := atI_get he
  obtain ⟨w, ew, rw'⟩ := r.get h2
  have hl := r.length
  have hn := line63
  have fin : EP X pins σ Q w s := ⟨z, H, I, rw', q⟩
  by_cases h0 : 0 ≤ i
  · have hj : i.toNat = j := by
      rw [seqIndex_of h0 h5] at h1
      exact Option.some.inj h1
    exact wpAny_getItem_list pl.isList h0 (by omega) (by rw [hj]; simpa using ew) fin
  · have hj : (i + (its.toArray.size : Int)).toNat = j := by
      rw [seqIndex_neg (by omega) h4] at h1
      rw [List.size_toArray, ← hl]
      exact Option.some.inj h1
    exact wpAny_getItem_list_neg pl.isList (by omega) (by rw [List.size_toArray] <;> omega) (by omega) (by rw [hj]; simpa using ew) fin
structure SndS (tb : Tb) (b : IS) : Prop where
  s : ∀ c X, CxOk tb c X → ∀ x, (ckS b c).s x = true → PS X x (TSs X.K tb b)
  ss : ∀ c X, CxOk tb c X → ∀ x, (ckS b c).ss x = true → PSs X x (TSs X.K tb b)
theorem passes {tb : Tb} {c : Ctx} {X : Cx} (cx : CxOk tb c X) : PassesOwn (model X.prog X.w) X.A X.env X.xe := by
  rw [cx.xo.xe]
  exact PassesOwn.never
theorem sndOne {tb : Tb} {b : IS} {f : Ctx → Stmt → Bool} (h : ∀ c X, CxOk tb c X → ∀ x, f c x = true → PS X x (TSs X.K tb b)) (hc : ∀ c, ckS b c = one (f c)) : SndS tb b where
  s := fun c X cx x q => h c X cx x (by rw [hc] at q; exact q)
  ss := fun c X cx x q => by
    rw [hc] at q
    match x, q with
    | [y], q => exact pss_one (h c X cx y q)
    | [], q => cases q
    | _ :: _ :: _, q => cases q
section
variable {tb : Tb}
theorem sd_skip : SndS tb .skip where
  s := fun c X cx x h => by
    cases x with
    | Pass p => exact PS.mono ps_pass fun D σ H ⟨w, st, env, ok, er, h⟩ => h σ H w Le.refl ok er
    | Expr e p =>
      cases e with
      | Constant k j q =>
        cases k with
        | str z => exact PS.mono ps_doc fun D σ H ⟨w, st, env, ok, er, h⟩ => h σ H w Le.refl ok er
        | _ => cases h
      | _ => cases h
    | _ => cases h
  ss := fun c X cx x h => by
    have h : x.isEmpty = true := h
    cases x with
    | nil => exact PSs.mono pss_nil fun D σ H ⟨w, st, env, ok, er, h⟩ => h σ H w Le.refl ok er
    | cons _ _ => cases h
theorem sd_seq {a b : IS} (ha : SndS tb a) (hb : SndS tb b) : SndS tb (.seq a b) where
  s := fun c X cx x h => ff h
  ss := fun c X cx x h => by
    have h : (match isFr a with
      | some _ => (ckS b c).ss x
      | none => (match (generalizing := false) x with
        | x :: r => (ckS a c).s x && (ckS b c).ss r
        | [] => false)) = true := h
    cases hf : isFr a with
    | some i =>
      rw [hf] at h
      have ea : a = .freeze i := by
        cases a <;> first | (cases hf; rfl) | cases hf
      subst ea
      refine PSs.mono (hb.ss c X cx x h) fun D σ H ⟨w, st, env, ok, er, h⟩ => ?_
      have h : (match look env i with
        | some (.lm n) => (match st.l[n]? with
          | some (some xs) => semS tb b (put env i (.d (.list xs))) ⟨st.g, st.l.set n none⟩ (ksOf X.K D H w st)
          | _ => False)
        | _ => False) := h
      split at h
      · rename_i n hl
        split at h
        · rename_i xs hx
          obtain ⟨v, hv, a, rfl, ha⟩ := er.look hl
          obtain ⟨le, ok', r⟩ := freeze_ok (xs := []) ok hx ha
          have er' := (er.le le).put (ev := .d (.list xs)) r i
          rw [set_self hv] at er'
          exact on_le cx.mono le ok' er' h
        · exact h.elim
      · exact h.elim
    | none =>
      rw [hf] at h
      cases x with
      | nil => cases h
      | cons x r =>
        obtain ⟨h1, h2⟩ := band (show ((ckS a c).s x && (ckS b c).ss r) = true from h)
        refine PSs.mono (pss_cons (ha.s c X cx x h1) (hb.ss c X cx r h2)) fun D σ H ⟨w, st, env, ok, er, h⟩ => ?_
        exact ⟨w, st, env, ok, er, semS_mono cx.mono a _ _ { ksOf X.K D H w st with nx := fun env s => semS tb b env s (ksOf X.K D H w st) } (ksOf X.K { D with nx := TSs X.K tb b D } H w st) ⟨fun e s h σ' H' w' le ok' er' => on_le cx.mono le ok' er' h, fun _ _ z => z, fun _ _ z => z, fun _ _ z => z⟩ h⟩
theorem sd_aug (o : BOp) (i : Nat) (e : IE) : SndS tb (.aug o i e) := sndOne (f := fun c x => match x with
      | .AugAssign (.Name y _) op v _ => decide (op = opA o) && (decide (c.N[i]? = some y) && (locB c.sc y && ((c.fn y || isLoc c.sc y) && (ck e c).e v)))
      | _ => false) (fun c X cx x h => by
  split at h
  · obtain ⟨h1, hA⟩ := band h
    obtain ⟨h2, hB⟩ := band hA
    obtain ⟨h3, hC⟩ := band hB
    obtain ⟨h4, h5⟩ := band hC
    rw [of_decide_eq_true h1]
    have hf : X.fn _ = true ∨ X.env.scope.names.lookup _ = some .local := (Bool.or_eq_true_iff.mp h4).elim (fun z => .inl (cx.fn _ z)) fun z => .inr (isLoc_of cx.sc z)
    refine PS.mono (ps_aug (ti := rAug X.K o) cx.nd (by rw [cx.N]; exact of_decide_eq_true h2) (loc_of cx.sc h3) ((snd tb e).e c X cx _ h5) (op_aug o) hf) fun D σ H ⟨w, st, env, ok, er, h⟩ => ?_
    have h : (match look env i with
      | some x => (sem tb e).e env st fun y st' => augK o x y fun z => (ksOf X.K D H w st).nx (put env i z) st'
      | none => False) := h
    split at h
    · rename_i ev hl
      obtain ⟨v, hv, rv⟩ := er.look hl
      refine ⟨v, hv, bE cx.mono e ok er h fun ey st1 h1 y H1 w1 le1 ok1 r1 => ⟨w1, st1, ev, ey, ok1, rv.le le1, r1, augK_mono (fun z q u H2 le2 ok2 r2 => ?_) h1⟩⟩
      exact q _ H2 w1 (le1.trans le2) ok2 (((er.le le1).le le2).put r2 i)
    · exact h.elim
  · cases h) fun _ => rfl
theorem sd_ret (e : IE) : SndS tb (.ret e) := sndOne (f := fun c x => match x with
      | .Return (some v) _ => (ck e c).e v
      | _ => false) (fun c X cx x h => by
  split at h
  · exact PS.mono (ps_ret ((snd tb e).e c X cx _ h)) fun D σ H ⟨w, st, env, ok, er, h⟩ => ⟨w, st, env, ok, er, h⟩
  · cases h) fun _ => rfl
theorem sd_ret0 : SndS tb .ret0 := sndOne (f := fun _ x => match x with
      | .Return none _ => true
      | _ => false) (fun c X cx x h => by
  split at h
  · exact PS.mono ps_retN fun D σ H ⟨w, st, env, ok, er, h⟩ => h _ H w Le.refl ok Rep.non
  · cases h) fun _ => rfl
theorem sd_brk : SndS tb .brk := sndOne (f := fun _ x => match x with
      | .Break _ => true
      | _ => false) (fun c X cx x h => by
  split at h
  · exact PS.mono ps_break fun D σ H ⟨w, st, env, ok, er, h⟩ => h _ H w Le.refl ok er
  · cases h) fun _ => rfl
theorem sd_cont : SndS tb .cont := sndOne (f := fun _ x => match x with
      | .Continue _ => true
      | _ => false) (fun c X cx x h => by
  split at h
  · exact PS.mono ps_continue fun D σ H ⟨w, st, env, ok, er, h⟩ => h _ H w Le.refl ok er
  · cases h) fun _ => rfl
theorem sd_never : SndS tb .never where
  s := fun c X cx x h => PS.mono ps_never fun D σ H ⟨w, st, env, ok, er, h⟩ => h
  ss := fun c X cx x h => PSs.mono pss_never fun D σ H ⟨w, st, env, ok, er, h⟩ => h
theorem sd_freeze (i : Nat) : SndS tb (.freeze i) where
  s := fun c X cx x h => ff h
  ss := fun c X cx x h => ff h
theorem sd_exp (e : IE) : SndS tb (.exp e) := sndOne (f := fun c x => match x with
      | .Expr v _ => notComp v && (ck e c).e v
      | _ => false) (fun c X cx x h => by
  split at h
  · obtain ⟨h1, h2⟩ := band h
    exact PS.mono (ps_expr ((snd tb e).e c X cx _ h2) (swaps_of h1)) fun D σ H ⟨w, st, env, ok, er, h⟩ =>
      bE cx.mono e ok er h fun ev st1 h1 v H1 w1 le1 ok1 r1 => h1 σ H1 w1 le1 ok1 (er.le le1)
  · cases h) fun _ => rfl
theorem sd_ifs (t : IE) {a b : IS} (ha : SndS tb a) (hb : SndS tb b) : SndS tb (.ifs t a b) := sndOne (f := fun c x => match x with
      | .If q p r _ => (ck t c).t q && ((ckS a c).ss p && (ckS b c).ss r)
      | _ => false) (fun c X cx x h => by
  split at h
  · obtain ⟨h1, hA⟩ := band h
    obtain ⟨h2, h3⟩ := band hA
    refine PS.mono (ps_if ((snd tb t).t c X cx _ h1) (ha.ss c X cx _ h2) (hb.ss c X cx _ h3)) fun D σ H ⟨w, st, env, ok, er, h⟩ => ?_
    refine bT cx.mono t ok er h fun x st1 h1 H1 w1 le1 ok1 => ?_
    cases x with
    | true =>
      have h1 := brT' h1; simp only [if_true]
      exact on_le cx.mono le1 ok1 (er.le le1) h1
    | false =>
      have h1 := brF' h1; simp only [Bool.false_eq_true, if_false]
      exact on_le cx.mono le1 ok1 (er.le le1) h1
  · cases h) fun _ => rfl
theorem sd_whl (t : IE) {b : IS} (hb : SndS tb b) : SndS tb (.whl t b) := sndOne (f := fun c x => match x with
      | .While q p [] _ => (ck t c).t q && (ckS b c).ss p
      | _ => false) (fun c X cx x h => by
  split at h
  · obtain ⟨h1, h2⟩ := band h
    refine PS.mono (ps_while (passes cx) ((snd tb t).t c X cx _ h1) (hb.ss c X cx _ h2)) fun D σ H ⟨w, st, env, ok, er, h⟩ => ?_
    obtain ⟨I, ⟨m0, h0⟩, hs⟩ := (show whlK (sem tb t).t (semS tb b) env st (ksOf X.K D H w st) from h)
    refine ⟨fun m σ' H' => ∃ w' st' env', Le H w st H' w' st' ∧ WOk X.K H' w' st' ∧ EnvRep X.K H' w' st' σ' env' ∧ I m env' st', ⟨m0, w, st, env, Le.refl, ok, er, h0⟩, ?_⟩
    rintro m σ1 H1 ⟨w1, st1, env1, le1, ok1, er1, i1⟩
    refine bT cx.mono t ok1 er1 (hs m env1 st1 i1) fun x st2 h2 H2 w2 le2 ok2 => ?_
    cases x with
    | true =>
      have h2 := brT' h2; simp only [if_true]
      refine ⟨fun σ' H' => ∃ w' st' env', Le H w st H' w' st' ∧ WOk X.K H' w' st' ∧ EnvRep X.K H' w' st' σ' env' ∧ ∃ m', m' < m ∧ I m' env' st', fun σ' H' ⟨w', st', env', a, b, d, m', e, f⟩ => ⟨m', e, w', st', env', a, b, d, f⟩, ?_⟩
      refine ⟨w2, st2, env1, ok2, er1.le le2, semS_mono cx.mono b _ _ { nx := fun e s => ∃ m', m' < m ∧ I m' e s, rt := (ksOf X.K D H w st).rt, bk := (ksOf X.K D H w st).nx, ct := fun e s => ∃ m', m' < m ∧ I m' e s } _ ⟨fun e s h σ' H' w' le ok' er' => ⟨w', s, e, (le1.trans le2).trans le, ok', er', h⟩, fun ev s h v H' w' le => h v H' w' ((le1.trans le2).trans le), fun e s h σ' H' w' le => h σ' H' w' ((le1.trans le2).trans le), fun e s h σ' H' w' le ok' er' => ⟨w', s, e, (le1.trans le2).trans le, ok', er', h⟩⟩ h2⟩
    | false =>
      have h2 := brF' h2; simp only [Bool.false_eq_true, if_false]
      exact h2 σ1 H2 w2 (le1.trans le2) ok2 (er1.le le2)
  · cases h) fun _ => rfl
theorem sd_fr (t it : IE) {b : IS} (hb : SndS tb b) : SndS tb (.fr t it b) := sndOne (f := fun c x => match x with
      | .For tx ix p [] _ => notSet ix && ((ck it c).i tx ix && ((ck t c).g tx && (ckS b c).ss p))
      | _ => false) (fun c X cx x h => by
  split at h
  · obtain ⟨h1, hA⟩ := band h
    obtain ⟨h2, hB⟩ := band hA
    obtain ⟨h3, h4⟩ := band hB
    refine PS.mono (ps_for (passes cx) cx.xo.calm ((snd tb it).i c X cx _ _ h2) ((snd tb t).g c X cx _ h3) (hb.ss c X cx _ h4) (fold_of h1)) fun D σ H ⟨w, st, env, ok, er, h⟩ => ?_
    refine ⟨w, st, env, ok, er, (sem_mono cx.mono it).i _ _ _ _ (fun xs st1 h1 J H1 w1 le1 ok1 ys => ?_) h⟩
    refine ⟨fun i m σ' H' => ∃ w' st' env', i ≤ xs.length ∧ m = xs.length - i ∧ Le H1 w1 st1 H' w' st' ∧ WOk X.K H' w' st' ∧ EnvRep X.K H' w' st' σ' env' ∧ loopF (sem tb t).a (semS tb b) (xs.drop i) env' st' (ksOf X.K D H w st),
      ⟨xs.length, w1, st1, env, Nat.zero_le _, rfl, Le.refl, ok1, er.le le1, by rw [List.drop_zero]; exact h1⟩, ?_⟩
    rintro i m σ' H' ⟨w', st', env', hi, hm, lp, ok', er', hl⟩
    obtain ⟨y1, y2⟩ := ys H' w' st' lp.fr ok' i
    by_cases hx : i < xs.length
    · have hxi : xs[i]? = some xs[i] := List.getElem?_eq_getElem hx
      rw [List.drop_eq_getElem_cons hx] at hl
      obtain ⟨go, y2⟩ := y2 _ hxi
      refine .inr ⟨go, fun σ'' H'' => ∃ w'' st'' env'', Le H1 w1 st1 H'' w'' st'' ∧ WOk X.K H'' w'' st'' ∧ EnvRep X.K H'' w'' st'' σ'' env'' ∧ loopF (sem tb t).a (semS tb b) (xs.drop (i + 1)) env'' st'' (ksOf X.K D H w st),
        fun σ'' H'' ⟨w'', st'', env'', a1, a2, a3, a4⟩ => ⟨xs.length - (i + 1), by omega, w'', st'', env'', by omega, rfl, a1, a2, a3, a4⟩, fun v H2 yl => ?_⟩
      obtain ⟨le2, ok2, rv⟩ := y2 v H2 yl
      refine ⟨w', st', env', .d xs[i], ok2, er'.le le2, rv, (sem_mono cx.mono t).a _ _ _ _ (fun env2 hc σ2 er2 ch => ?_) hl⟩
      have l2 := lp.trans le2
      have l0 := le1.trans l2
      exact ⟨w', st', env2, ok2, er2, semS_mono cx.mono b _ _ { nx := fun e s => loopF (sem tb t).a (semS tb b) (xs.drop (i + 1)) e s (ksOf X.K D H w st), rt := (ksOf X.K D H w st).rt, bk := (ksOf X.K D H w st).nx, ct := fun e s => loopF (sem tb t).a (semS tb b) (xs.drop (i + 1)) e s (ksOf X.K D H w st) } _ ⟨fun e s h σ' H' w' le ok' er' => ⟨w', s, e, l2.trans le, ok', er', h⟩, fun ev s h v H' w' le => h v H' w' (l0.trans le), fun e s h σ' H' w' le => h σ' H' w' (l0.trans le), fun e s h σ' H' w' le ok' er' => ⟨w', s, e, l2.trans le, ok', er', h⟩⟩ hc⟩
    · have e : i = xs.length := by omega
      subst e
      rw [List.drop_length] at hl
      have hl : ∀ σ' H2 w2, Le H w st H2 w2 st' → WOk X.K H2 w2 st' → EnvRep X.K H2 w2 st' σ' env' → D.nx σ' H2 := hl
      exact .inl ⟨y1 (Nat.le_refl _), hl _ _ w' (le1.trans lp) ok' er'⟩
  · cases h) fun _ => rfl
/-! ### lists that change -/
theorem sole_of2 {t e : Expr} {l : Nat} {env : Env} (h : noSw t e = true) : swapsWithSole [t] e l env = pure false := by
  show swapsWith e (some t) l env = pure false
  by_cases z : notComp e = true
  · exact swaps_of z
  · cases t with
    | Tuple ts k p => cases e <;> rfl
    | _ => exact absurd h z
theorem sole_of {t e : Expr} {l : Nat} {env : Env} (h : notComp e = true) : swapsWithSole [t] e l env = pure false := swaps_of (t := some t) h
theorem assign_sub {o i : Expr} {pos : Pos} {env : Env} (h : notSlice i = true) : ∀ v, assign (.Subscript o i pos) env v = (do
      let ov ← holding [v] (eval o env)
      let iv ← holding [v, ov] (eval i env)
      standAt pos
      holding [v, ov, iv] (setItem ov iv v)
      release [v, ov, iv] []) := by
  intro v
  cases i <;> first | rfl | cases h
theorem store_sub {i : Expr} (h : notSlice i = true) : ∀ ov iv new, augStore i ov iv new = (do holding [new, ov, iv] (setItem ov iv new); release [new, ov, iv] []; pure .next) := by
  intro ov iv new
  cases i <;> first | rfl | cases h
theorem sd_setI (a i e : IE) : SndS tb (.setI a i e) := sndOne (f := fun c x => match x with
      | .Assign [.Subscript ox ix _] v _ => notComp v && (notSlice ix && ((ck a c).e ox && ((ck i c).e ix && (ck e c).e v)))
      | _ => false) (fun c X cx x h => by
  split at h
  · obtain ⟨h1, h0⟩ := band h
    obtain ⟨hs, hA⟩ := band h0
    obtain ⟨h2, hB⟩ := band hA
    obtain ⟨h3, h4⟩ := band hB
    refine PS.mono (ps_asg ((snd tb e).e c X cx _ h4) (pg_sub ((snd tb a).e c X cx _ h2) ((snd tb i).e c X cx _ h3) set_list (assign_sub hs)) (sole_of h1)) fun D σ H ⟨w, st, env, ok, er, h⟩ => ?_
    refine bE cx.mono e ok er h fun ev st1 h1 v H1 w1 le1 ok1 r1 => bE cx.mono a ok1 (er.le le1) h1 fun ex st2 h2 o H2 w2 le2 ok2 r2 => bE cx.mono i ok2 (er.le (le1.trans le2)) h2 fun ej st3 h3 k H3 w3 le3 ok3 r3 => ?_
    obtain ⟨d, rd, h3⟩ := dE_rep r1 h3
    obtain ⟨p, vs, ds, up, rfl, hp, rs, hf, hup⟩ := set_rep ok3 (r2.le le3) h3
    cases ej with
    | d dj =>
      cases dj with
      | int n =>
        cases (show Rep _ _ _ k _ from r3)
        have hf : (match L2.ixN ds.length n with
          | some m => (ksOf X.K D H w st).nx env (up (ds.set m d))
          | none => False) := hf
        split at hf
        · rename_i m hm
          have l3 := (le1.trans le2).trans le3
          obtain ⟨le4, ok4⟩ := hup (vs.set m v) (ds.set m d) (Reps.set (rd.le (le2.trans le3)) m rs)
          exact ⟨p, vs, n, m, rfl, rfl, hp, by rw [rs.length]; exact hm, hf σ _ w3 (l3.trans le4) ok4 ((er.le l3).le le4)⟩
        · exact hf.elim
      | _ => exact hf.elim
    | _ => exact hf.elim
  · cases h) fun _ => rfl
theorem sd_augS (o : BOp) (a i e : IE) : SndS tb (.augS o a i e) := sndOne (f := fun c x => match x with
      | .AugAssign (.Subscript ox ix _) op v _ => decide (op = opA o) && (notSlice ix && ((ck a c).e ox && ((ck i c).e ix && (ck e c).e v)))
      | _ => false) (fun c X cx x h => by
  split at h
  · obtain ⟨h1, hA⟩ := band h
    obtain ⟨h2, hB⟩ := band hA
    obtain ⟨h3, hC⟩ := band hB
    obtain ⟨h4, h5⟩ := band hC
    rw [of_decide_eq_true h1]
    refine PS.mono (ps_augS (tip := rAug X.K o) ((snd tb a).e c X cx _ h3) ((snd tb i).e c X cx _ h4) get_list ((snd tb e).e c X cx _ h5) (op_aug o) set_list (store_sub h2)) fun D σ H ⟨w, st, env, ok, er, h⟩ => ?_
    refine bE cx.mono a ok er h fun ex st1 h1 ov H1 w1 le1 ok1 r1 => bE cx.mono i ok1 (er.le le1) h1 fun ej st2 h2 k H2 w2 le2 ok2 r2 => ?_
    obtain ⟨b, ds, p, vs, rfl, g1, g2, g3, hb, g4⟩ := seq_rep ok2 (r1.le le2) h2
    cases ej with
    | d dj =>
      cases dj with
      | int n =>
        cases (show Rep _ _ _ k _ from r2)
        have g4 : (match L2.ixN ds.length n with
          | some m => (match ds[m]? with
            | some old => (sem tb e).e env st2 fun y st3 => augK o (.d old) y fun z => dE z fun wz => setS ex st3 (fun xs k => ixK (.d (.int n)) xs.length fun m => k (xs.set m wz)) fun s4 => (ksOf X.K D H w st).nx env s4
            | none => False)
          | none => False) := g4
        split at g4
        · rename_i m hm
          split at g4
          · rename_i old hold
            obtain ⟨u, hu, ru⟩ := g3.get hold
            have ha : atI vs n = some u := by
              unfold atI
              rw [g3.length, hm]
              exact hu
            refine ⟨p, vs, n, u, rfl, rfl, g1 hb, ha, bE cx.mono e ok2 (er.le (le1.trans le2)) g4 fun ey st3 h3 y H3 w3 le3 ok3 r3 => ?_⟩
            refine ⟨w3, st3, .d old, ey, ok3, ru.le le3, r3, augK_mono (fun z q z' H4 le4 ok4 r4 => ?_) h3⟩
            obtain ⟨d, rd, q⟩ := dE_rep r4 q
            have l4 := ((le1.trans le2).trans le3).trans le4
            obtain ⟨p', vs', ds', up, e', hp, rs, hf, hup⟩ := set_rep ok4 (((r1.le le2).le le3).le le4) q
            cases e'
            have hf : (match L2.ixN ds'.length n with
              | some m => (ksOf X.K D H w st).nx env (up (ds'.set m d))
              | none => False) := hf
            split at hf
            · rename_i m' hm'
              obtain ⟨le5, ok5⟩ := hup (vs'.set m' z') (ds'.set m' d) (Reps.set rd m' rs)
              exact ⟨p, vs', n, m', rfl, rfl, hp, by rw [rs.length]; exact hm', hf σ _ w3 (l4.trans le5) ok5 ((er.le l4).le le5)⟩
            · exact hf.elim
          · exact g4.elim
        · exact g4.elim
      | _ => exact g4.elim
    | _ => exact g4.elim
  · cases h) fun _ => rfl
end
end VI

/-! VI15: the soundness of stores, of methods of lists; of every statement. -/
namespace VI
open PySem PySem.Spec PyProof.Rows L2
section
variable {tb : Tb}
/-- a list that may change is a list -/
theorem mut_ty {K : PySem.W.Frag} {H : Hp} {w : Wd} {st : Sto} {v : V} {ev : EV} (ok : WOk K H w st) (r : EVRep K H w st v ev) (h : mutE ev) : tyV K "list" v H := by
  cases ev with
  | d x => exact h.elim
  | sc x => exact h.elim
  | lm n =>
    obtain ⟨a, rfl, ha⟩ := r
    have hl : n < st.l.length := by rw [← ok.ll]; exact (List.getElem?_eq_some_iff.mp ha).1
    have hs : st.l[n]? = some st.l[n] := List.getElem?_eq_getElem hl
    cases q : st.l[n] with
    | none =>
      rw [q] at hs
      obtain ⟨vs, z⟩ := ok.fz n a hs ha
      exact .inl ⟨rfl, vs, SqL.of z⟩
    | some xs =>
      rw [q] at hs
      obtain ⟨a', vs, e, z, _⟩ := ok.l n xs hs
      rw [ha] at e
      cases e
      exact .inl ⟨rfl, vs, SqL.of z⟩
  | gm n =>
    obtain ⟨a, rfl, ha⟩ := r
    have hl : n < st.g.length := by rw [← ok.lg]; exact (List.getElem?_eq_some_iff.mp ha).1
    obtain ⟨a', vs, e, z, _⟩ := ok.g n _ (List.getElem?_eq_getElem hl)
    rw [ha] at e
    cases e
    exact .inl ⟨rfl, vs, SqL.of z⟩
theorem meth_form {name : Str} {a e : IE} {c : Ctx} {x : Stmt} (h : meth name a e c x = true) : ∃ o ap y cp p, x = .Expr (.Call (.Attribute o name ap) [y] [] cp) p ∧ notCall o = true ∧ (ap.endLine == cp.line) = true ∧ notStar y = true ∧ (ck a c).e o = true ∧ (ck e c).e y = true := by
  unfold meth at h
  split at h
  · obtain ⟨h1, hA⟩ := band h
    obtain ⟨h2, hB⟩ := band hA
    obtain ⟨h3, hC⟩ := band hB
    obtain ⟨h4, hD⟩ := band hC
    obtain ⟨h5, h6⟩ := band hD
    rw [of_decide_eq_true h1]
    exact ⟨_, _, _, _, _, rfl, h2, h3, h4, h5, h6⟩
  · cases h
theorem lineM {n : Nat} (h : n < 1000000) : n < sizeLine := by rw [sizeLine_eq]; omega
theorem lineN {n : Nat} (h : n ≤ 1000000) : n ≤ sizeLine := by rw [sizeLine_eq]; omega
theorem sd_app (a e : IE) : SndS tb (.app a e) := sndOne (f := fun c => meth "append" a e c) (fun c X cx x h => by
  obtain ⟨o, ap, y, cp, p, rfl, h2, h3, h4, h5, h6⟩ := meth_form h
  refine PS.mono (ps_expr (pe_bm PySem.F.plainAttrs_list PySem.F.slot_list_append PySem.F.type_list_append mt_append ((snd tb a).e c X cx _ h5) (pa_cons ((snd tb e).e c X cx _ h6) pa_nil (star_of h4)) (base_of h2) (few_of h4) h3 (star_of h4) rfl) (swaps_of rfl)) fun D σ H ⟨w, st, env, ok, er, h⟩ => ?_
  refine bE cx.mono a ok er h fun ex st1 h1 ov H1 w1 le1 ok1 r1 => ?_
  refine ⟨mut_ty ok1 r1 h1.1, bE cx.mono e ok1 (er.le le1) h1.2 fun ey st2 h2 v H2 w2 le2 ok2 r2 => ?_⟩
  obtain ⟨d, rd, h2⟩ := dE_rep r2 h2
  obtain ⟨q, vs, ds, up, rfl, hp, rs, hf, hup⟩ := set_rep ok2 (r1.le le2) h2
  obtain ⟨le3, ok3⟩ := hup (vs ++ [v]) (ds ++ [d]) (rs.append (.cons rd .nil))
  have l2 := le1.trans le2
  exact ⟨q, vs, v, rfl, rfl, hp, by rw [rs.length]; exact lineM hf.1, hf.2 σ _ w2 (l2.trans le3) ok3 ((er.le l2).le le3)⟩) fun _ => rfl
theorem meth0_form {name : Str} {a : IE} {c : Ctx} {x : Stmt} (h : meth0 name a c x = true) : ∃ o ap cp p, x = .Expr (.Call (.Attribute o name ap) [] [] cp) p ∧ notCall o = true ∧ (ap.endLine == cp.line) = true ∧ (ck a c).e o = true := by
  unfold meth0 at h
  split at h
  · obtain ⟨h1, hA⟩ := band h
    obtain ⟨h2, hB⟩ := band hA
    obtain ⟨h3, h4⟩ := band hB
    rw [of_decide_eq_true h1]
    exact ⟨_, _, _, _, rfl, h2, h3, h4⟩
  · cases h
theorem sd_clr (a : IE) : SndS tb (.clr a) := sndOne (f := fun c => meth0 "clear" a c) (fun c X cx x h => by
  obtain ⟨o, ap, cp, p, rfl, h2, h3, h5⟩ := meth0_form h
  refine PS.mono (ps_expr (pe_bm0 PySem.F.plainAttrs_list PySem.F.slot_list_clear PySem.F.type_list_clear mt_clear ((snd tb a).e c X cx _ h5) (base_of h2) h3) (swaps_of rfl)) fun D σ H ⟨w, st, env, ok, er, h⟩ => ?_
  refine bE cx.mono a ok er h fun ex st1 h1 ov H1 w1 le1 ok1 r1 => ?_
  refine ⟨mut_ty ok1 r1 h1.1, ?_⟩
  obtain ⟨q, vs, ds, up, rfl, hp, rs, hf, hup⟩ := set_rep ok1 r1 h1.2
  obtain ⟨le3, ok3⟩ := hup [] [] .nil
  exact ⟨q, vs, rfl, rfl, hp, hf σ _ w1 (le1.trans le3) ok3 ((er.le le1).le le3)⟩) fun _ => rfl
theorem list_extend_tup (l : Addr) (items : Array Value) (n : Nat) (b : Addr) (items2 : Array Value) (n2 : Nat) (o2 : Obj) (hc2 : o2.cls = .type "tuple") (hd2 : o2.data = .seq items2 n2) (hs0 : ¬(!items.isEmpty && Builtin.List.listTooLong (items.size + items2.size)) = true) (hs1 : items.size ≤ sizeLine) (hs2 : items.size + items2.size ≤ sizeLine + 1) :
    Meets (Builtin.«list.extend» ⟨[.ref l, .ref b], []⟩) (fun _ R s => s.heap.get? l = some { cls := .type "list", dict := none, data := .seq items n, slots := #[] } ∧ s.heap.get? b = some o2 ∧ R (.ok (.ret Value.none)) { s with heap := s.heap.update l (Obj.mapSeq fun x => x ++ items2), toks := s.toks }) :=
  .of_wp fun prog w A R s h => by
    obtain ⟨hp, g, d, tk, os⟩ := s
    obtain ⟨c2, dd, da, sl⟩ := o2
    have hc2 : c2 = .type "tuple" := hc2
    have hd2 : da = .seq items2 n2 := hd2
    subst hc2 hd2
    obtain ⟨hl, hb, h⟩ := h
    have f1 := AutoSeq1.idx_int; have f2 := AutoSeq1.sub_tuple_tuple; have f3 := AutoSeq1.sub_list_list; have f4 := AutoSeq1.sub_tuple_list; have f5 := AutoSeq1.sub_list_tuple
    have hz' : (items ++ items2).size ≤ sizeLine + 1 := by rw [Array.size_append]; exact hs2
    wp_walk using (wpAny_updateSeq hl rfl (hz := hs1) (_hz' := hz')), AutoSeq1.wpAny_loadPart' hl, AutoSeq1.wpAny_loadPart' hb
    exact ⟨_, rfl, h⟩
def rExtU (K : PySem.W.Frag) : V → List V → Hp → VK → Prop := fun x vs H Q => ∃ l b xs zs, x = .ref l ∧ vs = [.ref b] ∧ H l = some (.lst xs) ∧ (H b = some (.lst zs) ∨ SqT K H b zs) ∧ xs.length + zs.length ≤ sizeLine ∧ Q .non (upd H l (.lst (xs ++ zs)))
theorem mt_extU {X : Cx} : MtM X "list.extend" (rExtU X.K) := by
  intro pins s σ H x vs v us Q I rx rv h
  obtain ⟨l, b, xs, zs, rfl, rfl, hH, hB | hB, hz, q⟩ := h
  · exact mt_extend pins s σ H _ _ v us Q I rx rv ⟨l, b, xs, zs, rfl, rfl, hH, hB, hz, q⟩
  cases rx
  obtain ⟨u, rfl, ru⟩ := rv.one
  cases ru
  obtain ⟨z, its, n, r, hl, e⟩ := I.lstM hH
  obtain ⟨its2, r2, ⟨o2, e2, c2, n2, d2⟩, hl2⟩ := I.tuple hB
  have l2 := r2.length
  have hsz : its.toArray.size + its2.toArray.size ≤ sizeLine := by rw [List.size_toArray, List.size_toArray]; omega
  have hlong : ¬ (!its.toArray.isEmpty && Builtin.List.listTooLong (its.toArray.size + its2.toArray.size)) = true := by
    have : Builtin.List.listTooLong (its.toArray.size + its2.toArray.size) = false := by
      unfold Builtin.List.listTooLong
      exact decide_eq_false (by omega)
    rw [this, Bool.and_false]
    exact Bool.false_ne_true
  refine call_meets PySem.F.slot_list_extend ⟨_, e, rfl⟩ PySem.F.entry_list_extend (PySem.F.args_list_extend_2 _ _)
    (list_extend_tup l its.toArray n b its2.toArray n2 o2 c2 d2 hlong (by rw [List.size_toArray]; omega) (by omega)) ⟨e, e2, ?_⟩
  refine ⟨.non, _, I.lset (its' := its ++ its2) hH e (by simp) (r.append r2) ?_, rfl, q⟩
  rw [List.length_append]
  omega
theorem sd_ext (a e : IE) : SndS tb (.ext a e) := sndOne (f := fun c => meth "extend" a e c) (fun c X cx x h => by
  obtain ⟨o, ap, y, cp, p, rfl, h2, h3, h4, h5, h6⟩ := meth_form h
  refine PS.mono (ps_expr (pe_bm PySem.F.plainAttrs_list PySem.F.slot_list_extend PySem.F.type_list_extend mt_extU ((snd tb a).e c X cx _ h5) (pa_cons ((snd tb e).e c X cx _ h6) pa_nil (star_of h4)) (base_of h2) (few_of h4) h3 (star_of h4) rfl) (swaps_of rfl)) fun D σ H ⟨w, st, env, ok, er, h⟩ => ?_
  refine bE cx.mono a ok er h fun ex st1 h1 ov H1 w1 le1 ok1 r1 => ?_
  refine ⟨mut_ty ok1 r1 h1.1, bE cx.mono e ok1 (er.le le1) h1.2 fun ey st2 h2 v H2 w2 le2 ok2 r2 => ?_⟩
  cases ey with
  | d dy =>
    cases dy with
    | list ys =>
      cases (show Rep _ _ _ v _ from r2) with
      | lst f m rs2 =>
        obtain ⟨q, vs, ds, up, rfl, hp, rs, hf, hup⟩ := set_rep ok2 (r1.le le2) h2
        obtain ⟨le3, ok3⟩ := hup _ (ds ++ ys) (rs.append rs2)
        have l2 := le1.trans le2
        exact ⟨q, _, vs, _, rfl, rfl, hp, .inl f, by rw [rs.length, rs2.length]; exact lineN hf.1, hf.2 σ _ w2 (l2.trans le3) ok3 ((er.le l2).le le3)⟩
    | tuple ys =>
      cases (show Rep _ _ _ v _ from r2) with
      | tup f rs2 =>
        obtain ⟨q, vs, ds, up, rfl, hp, rs, hf, hup⟩ := set_rep ok2 (r1.le le2) h2
        obtain ⟨le3, ok3⟩ := hup _ (ds ++ ys) (rs.append rs2)
        have l2 := le1.trans le2
        exact ⟨q, _, vs, _, rfl, rfl, hp, .inr f.sq, by rw [rs.length, rs2.length]; exact lineN hf.1, hf.2 σ _ w2 (l2.trans le3) ok3 ((er.le l2).le le3)⟩
    | _ => exact h2.elim
  | _ => exact h2.elim) fun _ => rfl
theorem meth2_form {name : Str} {a i e : IE} {c : Ctx} {x : Stmt} (h : meth2 name a i e c x = true) : ∃ o ap j y cp p, x = .Expr (.Call (.Attribute o name ap) [j, y] [] cp) p ∧ notCall o = true ∧ (ap.endLine == cp.line) = true ∧ notStar j = true ∧ notStar y = true ∧ (ck a c).e o = true ∧ (ck i c).e j = true ∧ (ck e c).e y = true := by
  unfold meth2 at h
  split at h
  · obtain ⟨h1, hA⟩ := band h
    obtain ⟨h2, hB⟩ := band hA
    obtain ⟨h3, hC⟩ := band hB
    obtain ⟨h4, hD⟩ := band hC
    obtain ⟨h5, hE⟩ := band hD
    obtain ⟨h6, hF⟩ := band hE
    obtain ⟨h7, h8⟩ := band hF
    rw [of_decide_eq_true h1]
    exact ⟨_, _, _, _, _, _, rfl, h2, h3, h4, h5, h6, h7, h8⟩
  · cases h
theorem sd_ins (a i e : IE) : SndS tb (.ins a i e) := sndOne (f := fun c => meth2 "insert" a i e c) (fun c X cx x h => by
  obtain ⟨o, ap, j, y, cp, p, rfl, h2, h3, h4, h4', h5, h6, h7⟩ := meth2_form h
  refine PS.mono (ps_expr (pe_bm PySem.F.plainAttrs_list PySem.F.slot_list_insert PySem.F.type_list_insert mt_insert ((snd tb a).e c X cx _ h5) (pa_cons ((snd tb i).e c X cx _ h6) (pa_cons ((snd tb e).e c X cx _ h7) pa_nil (star_of h4')) (star_of h4)) (base_of h2) (few2_of h4 h4') h3 (star_of h4) (by rw [star_of h4']; rfl)) (swaps_of rfl)) fun D σ H ⟨w, st, env, ok, er, h⟩ => ?_
  refine bE cx.mono a ok er h fun ex st1 h1 ov H1 w1 le1 ok1 r1 => ?_
  refine ⟨mut_ty ok1 r1 h1.1, bE cx.mono i ok1 (er.le le1) h1.2 fun ej st2 h2 jv H2 w2 le2 ok2 r2 => bE cx.mono e ok2 (er.le (le1.trans le2)) h2 fun ey st3 h3 v H3 w3 le3 ok3 r3 => ?_⟩
  obtain ⟨d, rd, h3⟩ := dE_rep r3 h3
  cases ej with
  | d dj =>
    cases dj with
    | int n =>
      obtain ⟨⟨hn0, hn1⟩, h3⟩ := h3
      cases (show Rep _ _ _ jv _ from r2)
      obtain ⟨q, vs, ds, up, rfl, hp, rs, hf, hup⟩ := set_rep ok3 (r1.le (le2.trans le3)) h3
      obtain ⟨le4, ok4⟩ := hup (vs.take n.toNat ++ [v] ++ vs.drop n.toNat) (ds.take n.toNat ++ [d] ++ ds.drop n.toNat) (((rs.take _).append (.cons rd .nil)).append (rs.drop _))
      have l3 := (le1.trans le2).trans le3
      exact ⟨q, vs, n, v, rfl, rfl, hp, by rw [rs.length]; exact lineM hf.1, hn0, by omega, hf.2 σ _ w3 (l3.trans le4) ok4 ((er.le l3).le le4)⟩
    | _ => exact h3.elim
  | _ => exact h3.elim) fun _ => rfl
/-! ### stores -/
theorem asg1_of {t : Expr} {env : Env} (h : notStar t = true) : (assignEach [t] env).map (·.2) = [assign t env] := by
  rw [asg_of h]
  rfl
theorem fin_asg {t e : IE} {X : Cx} (ht : tb.Mono) (D : Ends) (σ : L2.St) (H : Hp) (h : TSs X.K tb (.asg t e) D σ H) : tAsg (TEs X.K tb e) (TGs1 X.K tb t) D σ H := by
  obtain ⟨w, st, env, ok, er, h⟩ := h
  exact bE ht e ok er h fun ev st1 h1 v H1 w1 le1 ok1 r1 => ⟨w1, st1, env, ev, ok1, er.le le1, r1, (sem_mono ht t).a _ _ _ _ (fun env' q σ' er' _ => q σ' H1 w1 le1 ok1 er') h1⟩
theorem sd_asgA {t e : IE} {c : Ctx} {X : Cx} (cx : CxOk tb c X) {tx vx : Expr} {p : Pos} (h : cA t e c tx vx = true) : PS X (.Assign [tx] vx p) (TSs X.K tb (.asg t e)) := by
  obtain ⟨h1, hA⟩ := band h
  obtain ⟨h2, hB⟩ := band hA
  obtain ⟨h3, hC⟩ := band hB
  obtain ⟨h4, hD⟩ := band hC
  obtain ⟨h5, h6⟩ := band hD
  have hs : swB X.env.scope tx vx = some none := by
    rw [cx.sc]
    split at h3
    · assumption
    · cases h3
  exact PS.mono (ps_asg ((snd tb e).e c X cx _ h6) ((snd tb t).g c X cx _ h5) (sole_of2 h2) (stores_of (by rw [cx.sc]; exact h4) hs) (asg1_of h1)) fun D σ H q => fin_asg cx.mono D σ H q
theorem sd_asgC {t e : IE} {c : Ctx} {X : Cx} (cx : CxOk tb c X) {tx vx : Expr} {p : Pos} (h : cC t e c tx vx = true) : PS X (.Assign [tx] vx p) (TSs X.K tb (.asg t e)) := by
  unfold cC at h
  split at h
  · rename_i i kd own tg it tt el y py elt tgx itx ifs a scope pos
    obtain ⟨h1, hA⟩ := band h
    obtain ⟨h2, hB⟩ := band hA
    obtain ⟨h3, hC⟩ := band hB
    obtain ⟨h4, hD⟩ := band hC
    obtain ⟨h5, h6⟩ := band hD
    obtain ⟨a0, ok, ho, pi, fs, sl, pg, pt, pe⟩ := lc_parts (snd tb tg) (snd tb it) (snd tb tt) (snd tb el) cx h6
    subst a0
    have hk : X.env.scope.kind = .function := by
      rw [cx.sc]
      unfold funB at h5
      split at h5
      · assumption
      · cases h5
    have hl := isLoc_of cx.sc h2
    have q := ps_setLc (i := i) (spos := p) cx.xo.calm cx.nd (by rw [cx.N]; exact of_decide_eq_true h1) hl (sw_true hk hl h3 (by simpa using h4)) pi ok pg pt pe fs
    rw [ho] at q
    refine PS.mono q fun D σ H q => ?_
    obtain ⟨w, st, env, ok, er, h⟩ := q
    refine cmpr_go (kd := kd) cx.mono sl ⟨w, st, env, ok, er, (sem_mono cx.mono (.cmpr kd own tg it tt el)).e _ _ _ _ (fun ev st1 h1 v H1 w1 le1 ok1 r1 => ?_) h⟩
    exact h1 _ H1 w1 le1 ok1 ((er.le le1).put r1 i)
  · cases h
theorem sd_asgC2 {t e : IE} {c : Ctx} {X : Cx} (cx : CxOk tb c X) {tx vx : Expr} {p : Pos} (h : cC2 t e c tx vx = true) : PS X (.Assign [tx] vx p) (TSs X.K tb (.asg t e)) := by
  unfold cC2 at h
  split at h
  · rename_i i kd own tg it tt tg1 it1 t1 el y py elt tgx itx ifs a tgx1 itx1 ifs1 a1 scope pos
    obtain ⟨g1, hA⟩ := band h
    obtain ⟨g2, hB⟩ := band hA
    obtain ⟨g3, hC⟩ := band hB
    obtain ⟨g4, hD⟩ := band hC
    obtain ⟨g5, h⟩ := band hD
    obtain ⟨h1, h⟩ := band h
    obtain ⟨h2, h⟩ := band h
    obtain ⟨h3, h⟩ := band h
    obtain ⟨h4, h⟩ := band h
    obtain ⟨h5, h⟩ := band h
    obtain ⟨h6, h⟩ := band h
    obtain ⟨h7, h⟩ := band h
    obtain ⟨h8, h⟩ := band h
    obtain ⟨h9, h⟩ := band h
    obtain ⟨h10, h⟩ := band h
    obtain ⟨h11, h⟩ := band h
    obtain ⟨h12, h⟩ := band h
    obtain ⟨h13, h14⟩ := band h
    have e1 := of_decide_eq_true h1
    have e2 := of_decide_eq_true h2
    subst e1 e2
    have ho : (own.map fun i => (c.N.getD i Str.empty, i)).map (·.2) = own := by
      rw [List.map_map]
      exact (List.map_congr_left fun _ _ => rfl).trans (List.map_id _)
    have bk : BlkOk X.N X.env.scope scope (own.map fun i => (c.N.getD i Str.empty, i)) := by rw [cx.N, cx.sc]; exact blkOk_by h3
    have r1 : ∀ (s : Shared) (H : Hp) (C : Addr) (cl : List (Str × Addr)) (fp : List Addr), PG (X.blk s H scope (compEnvC scope cl C X.env) fp) tgx (TGs1 X.K tb tg) := fun s H C cl fp => (snd tb tg).g _ _ (cx.blk s H scope cl C fp) _ h6
    have r2 : ∀ (s : Shared) (H : Hp) (C : Addr) (cl : List (Str × Addr)) (fp : List Addr), PTs (X.blk s H scope (compEnvC scope cl C X.env) fp) ifs (TTs X.K tb tt) := fun s H C cl fp => pts_ofB (snd tb tt) (cx.blk s H scope cl C fp) h8
    have r3 : ∀ (s : Shared) (H : Hp) (C : Addr) (cl : List (Str × Addr)) (fp : List Addr), PI (X.blk s H scope (compEnvC scope cl C X.env) fp) tgx1 itx1 (TIs X.K tb it1) := fun s H C cl fp => (snd tb it1).i _ _ (cx.blk s H scope cl C fp) _ _ h9
    have r4 : ∀ (s : Shared) (H : Hp) (C : Addr) (cl : List (Str × Addr)) (fp : List Addr), PG (X.blk s H scope (compEnvC scope cl C X.env) fp) tgx1 (TGs1 X.K tb tg1) := fun s H C cl fp => (snd tb tg1).g _ _ (cx.blk s H scope cl C fp) _ h11
    have r5 : ∀ (s : Shared) (H : Hp) (C : Addr) (cl : List (Str × Addr)) (fp : List Addr), PTs (X.blk s H scope (compEnvC scope cl C X.env) fp) ifs1 (TTs X.K tb t1) := fun s H C cl fp => pts_ofB (snd tb t1) (cx.blk s H scope cl C fp) h13
    have r6 : ∀ (s : Shared) (H : Hp) (C : Addr) (cl : List (Str × Addr)) (fp : List Addr), PE (X.blk s H scope (compEnvC scope cl C X.env) fp) elt (TEs X.K tb el) := fun s H C cl fp => (snd tb el).e _ _ (cx.blk s H scope cl C fp) _ h14
    have hk : X.env.scope.kind = .function := by
      rw [cx.sc]
      unfold funB at g5
      split at g5
      · assumption
      · cases g5
    have hl := isLoc_of cx.sc g2
    have q := ps_setLc2 (i := i) (spos := p) (vs1 := slotsOf tg1) cx.xo.calm cx.nd (by rw [cx.N]; exact of_decide_eq_true g1) hl (sw_true hk hl g3 (by simpa using g4)) ((snd tb it).i c X cx _ _ h4) bk
      (fun i hm => by rw [ho]; exact of_decide_eq_true (List.all_eq_true.mp h12 i hm)) r1 r2 r3 r4 r5 r6 (fold_of h5) (fun env => fold_of h10)
    rw [ho] at q
    refine PS.mono q fun D σ H q => ?_
    obtain ⟨w, st, env, ok, er, h⟩ := q
    refine cmpr2_go (kd := kd) cx.mono (fun j hj => of_decide_eq_true (List.all_eq_true.mp h7 j hj)) ⟨w, st, env, ok, er, (sem_mono cx.mono (.cmpr2 kd own tg it tt tg1 it1 t1 el)).e _ _ _ _ (fun ev st1 h1 v H1 w1 le1 ok1 r1 => ?_) h⟩
    exact h1 _ H1 w1 le1 ok1 ((er.le le1).put r1 i)
  · cases h
theorem sd_asgB2 {t e : IE} {c : Ctx} {X : Cx} (cx : CxOk tb c X) {tx vx : Expr} {p : Pos} (h : cB2 t e c tx vx = true) : PS X (.Assign [tx] vx p) (TSs X.K tb (.asg t e)) := by
  unfold cB2 at h
  split at h
  · rename_i i j r x px y py kt pt a b k2 pt2
    obtain ⟨h1, hA⟩ := band h
    obtain ⟨h2, hB⟩ := band hA
    obtain ⟨h3, hC⟩ := band hB
    obtain ⟨h4, hD⟩ := band hC
    obtain ⟨h5, hE⟩ := band hD
    obtain ⟨h6, hF⟩ := band hE
    obtain ⟨h7, h8⟩ := band hF
    refine PS.mono (ps_par cx.xo.calm cx.nd (by rw [cx.N]; exact of_decide_eq_true h1) (by rw [cx.N]; exact of_decide_eq_true h2) (of_decide_eq_true h3) (isLoc_of cx.sc h4) (isLoc_of cx.sc h5) ((snd tb r).l c X cx _ h6).1 (stores_of (by rw [cx.sc]; exact h8) (by rw [cx.sc]; exact of_decide_eq_true h7))) fun D σ H ⟨w, st, env, ok, er, h⟩ => ?_
    refine bL cx.mono r ok er h fun evs st1 q vs H1 w1 le1 ok1 r1 hl => ?_
    obtain ⟨ds, rs, q⟩ := allD_rep r1 q
    cases rs with
    | nil => cases hl
    | cons ra rs =>
      cases rs with
      | nil => cases hl
      | cons rb rs =>
        cases rs with
        | nil =>
          obtain ⟨-, q⟩ := (show [] = [] ∧ (ksOf X.K D H w st).nx (put (put env i _) j _) st1 from q)
          exact ⟨_, _, rfl, q _ H1 w1 le1 ok1 (((er.le le1).put (ev := .d _) ra i).put (ev := .d _) rb j)⟩
        | cons _ _ => cases hl
  · cases h
theorem sd_asgB3 {t e : IE} {c : Ctx} {X : Cx} (cx : CxOk tb c X) {tx vx : Expr} {p : Pos} (h : cB3 t e c tx vx = true) : PS X (.Assign [tx] vx p) (TSs X.K tb (.asg t e)) := by
  unfold cB3 at h
  split at h
  · rename_i i j l r x px y py z pz kt pt a b d k2 pt2
    obtain ⟨h1, hA⟩ := band h
    obtain ⟨h2, hB⟩ := band hA
    obtain ⟨h3, hC⟩ := band hB
    obtain ⟨h4, hD⟩ := band hC
    obtain ⟨h5, hE⟩ := band hD
    obtain ⟨h6, hF⟩ := band hE
    obtain ⟨h7, hG⟩ := band hF
    obtain ⟨h8, hH⟩ := band hG
    obtain ⟨h9, hI⟩ := band hH
    obtain ⟨hj, hJ⟩ := band hI
    obtain ⟨hk, hm⟩ := band hJ
    refine PS.mono (ps_par3 cx.xo.calm cx.nd (by rw [cx.N]; exact of_decide_eq_true h1) (by rw [cx.N]; exact of_decide_eq_true h2) (by rw [cx.N]; exact of_decide_eq_true h3) (of_decide_eq_true h4) (of_decide_eq_true h5) (of_decide_eq_true h6) (isLoc_of cx.sc h7) (isLoc_of cx.sc h8) (isLoc_of cx.sc h9) ((snd tb r).l c X cx _ hj).1 (stores_of (by rw [cx.sc]; exact hm) (by rw [cx.sc]; exact of_decide_eq_true hk))) fun D σ H ⟨w, st, env, ok, er, h⟩ => ?_
    refine bL cx.mono r ok er h fun evs st1 q vs H1 w1 le1 ok1 r1 hl => ?_
    obtain ⟨ds, rs, q⟩ := allD_rep r1 q
    cases rs with
    | nil => cases hl
    | cons ra rs =>
      cases rs with
      | nil => cases hl
      | cons rb rs =>
        cases rs with
        | nil => cases hl
        | cons rc rs =>
          cases rs with
          | nil =>
            obtain ⟨-, q⟩ := (show [] = [] ∧ (ksOf X.K D H w st).nx (put (put (put env i _) j _) l _) st1 from q)
            exact ⟨_, _, _, rfl, q _ H1 w1 le1 ok1 ((((er.le le1).put (ev := .d _) ra i).put (ev := .d _) rb j).put (ev := .d _) rc l)⟩
          | cons _ _ => cases hl
  · cases h
theorem sd_asg (t e : IE) : SndS tb (.asg t e) := sndOne (f := fun c x => match x with
      | .Assign [tx] vx _ => cA t e c tx vx || (cC t e c tx vx || (cB2 t e c tx vx || (cB3 t e c tx vx || cC2 t e c tx vx)))
      | _ => false) (fun c X cx x h => by
  split at h
  · rcases Bool.or_eq_true_iff.mp h with h | h
    · exact sd_asgA cx h
    · rcases Bool.or_eq_true_iff.mp h with h | h
      · exact sd_asgC cx h
      · rcases Bool.or_eq_true_iff.mp h with h | h
        · exact sd_asgB2 cx h
        · rcases Bool.or_eq_true_iff.mp h with h | h
          · exact sd_asgB3 cx h
          · exact sd_asgC2 cx h
  · cases h) fun _ => rfl
theorem par2_of {i j : Nat} {r : IE} {c : Ctx} {X : Cx} (cx : CxOk tb c X) {tx vx : Expr} {p : Pos} (h : cB2 (.tup (.cons (.var i) (.cons (.var j) .nil))) (.tup r) c tx vx = true) : PS X (.Assign [tx] vx p) (tPar i j (TLs X.K tb r 2)) := by
  unfold cB2 at h
  split at h
  · rename_i i' j' r' x px y py kt pt a b k2 pt2 e1 e2
    cases e1
    cases e2
    obtain ⟨h1, hA⟩ := band h
    obtain ⟨h2, hB⟩ := band hA
    obtain ⟨h3, hC⟩ := band hB
    obtain ⟨h4, hD⟩ := band hC
    obtain ⟨h5, hE⟩ := band hD
    obtain ⟨h6, hF⟩ := band hE
    obtain ⟨h7, h8⟩ := band hF
    exact ps_par cx.xo.calm cx.nd (by rw [cx.N]; exact of_decide_eq_true h1) (by rw [cx.N]; exact of_decide_eq_true h2) (of_decide_eq_true h3) (isLoc_of cx.sc h4) (isLoc_of cx.sc h5) ((snd tb r).l c X cx _ h6).1 (stores_of (by rw [cx.sc]; exact h8) (by rw [cx.sc]; exact of_decide_eq_true h7))
  · cases h
theorem par3_of {i j l : Nat} {r : IE} {c : Ctx} {X : Cx} (cx : CxOk tb c X) {tx vx : Expr} {p : Pos} (h : cB3 (.tup (.cons (.var i) (.cons (.var j) (.cons (.var l) .nil)))) (.tup r) c tx vx = true) : PS X (.Assign [tx] vx p) (tPar3 i j l (TLs X.K tb r 3)) := by
  unfold cB3 at h
  split at h
  · rename_i i' j' l' r' x px y py z pz kt pt a b d k2 pt2 e1 e2
    cases e1
    cases e2
    obtain ⟨h1, hA⟩ := band h
    obtain ⟨h2, hB⟩ := band hA
    obtain ⟨h3, hC⟩ := band hB
    obtain ⟨h4, hD⟩ := band hC
    obtain ⟨h5, hE⟩ := band hD
    obtain ⟨h6, hF⟩ := band hE
    obtain ⟨h7, hG⟩ := band hF
    obtain ⟨h8, hH⟩ := band hG
    obtain ⟨h9, hI⟩ := band hH
    obtain ⟨hj, hJ⟩ := band hI
    obtain ⟨hk, hm⟩ := band hJ
    exact ps_par3 cx.xo.calm cx.nd (by rw [cx.N]; exact of_decide_eq_true h1) (by rw [cx.N]; exact of_decide_eq_true h2) (by rw [cx.N]; exact of_decide_eq_true h3) (of_decide_eq_true h4) (of_decide_eq_true h5) (of_decide_eq_true h6) (isLoc_of cx.sc h7) (isLoc_of cx.sc h8) (isLoc_of cx.sc h9) ((snd tb r).l c X cx _ hj).1 (stores_of (by rw [cx.sc]; exact hm) (by rw [cx.sc]; exact of_decide_eq_true hk))
  · cases h
theorem par4_of {is : List Nat} {r : IE} {c : Ctx} {X : Cx} (cx : CxOk tb c X) {tx vx : Expr} {p : Pos} (h : cB4 is r c tx vx = true) : PS X (.Assign [tx] vx p) (TSs X.K tb (.par is r)) := by
  unfold cB4 at h
  split at h
  · rename_i i j l m x px y py z pz u pu kt pt es k2 pt2
    obtain ⟨h1, h⟩ := band h
    obtain ⟨h2, h⟩ := band h
    obtain ⟨h3, h⟩ := band h
    obtain ⟨h4, h⟩ := band h
    obtain ⟨g1, h⟩ := band h
    obtain ⟨g2, h⟩ := band h
    obtain ⟨g3, h⟩ := band h
    obtain ⟨g4, h⟩ := band h
    obtain ⟨hl, h⟩ := band h
    obtain ⟨hn, h⟩ := band h
    obtain ⟨hs, hf⟩ := band h
    have hn := of_decide_eq_true hn
    have nm : ∀ {i : Nat} {x : Str} {px : Pos}, decide (c.N[i]? = some x) = true → lcB c x = true → PG X (.Name x px) (gName i) := fun a b => by
      obtain ⟨b1, b2⟩ := band (show (locB c.sc _ && (c.fn _ || isLoc c.sc _)) = true from b)
      exact pg_name cx.nd (by rw [cx.N]; exact of_decide_eq_true a) (loc_of cx.sc b1) ((Bool.or_eq_true_iff.mp b2).elim (fun z => .inl (cx.fn _ z)) fun z => .inr (isLoc_of cx.sc z))
    have pa := ((snd tb r).l c X cx _ hl).1
    have pt' : PG X (.Tuple [.Name x px, .Name y py, .Name z pz, .Name u pu] kt pt) (gTup X.K 4 (gCons (gName i) (gCons (gName j) (gCons (gName l) (gCons (gName m) gNil))))) :=
      pg_tup cx.xo.calm (pgs_cons (nm h1 g1) (pgs_cons (nm h2 g2) (pgs_cons (nm h3 g3) (pgs_cons (nm h4 g4) pgs_nil))))
    refine PS.mono (ps_asg (pe_tup pa) pt' (sole_of2 rfl) (stores_of (by rw [cx.sc]; exact hf) (by rw [cx.sc]; exact of_decide_eq_true hs)) (asg1_of rfl)) fun D σ H ⟨w, st, env, ok, er, h⟩ => ?_
    refine bL cx.mono r ok er h fun evs st1 q vs H1 w1 le1 ok1 r1 hl => ?_
    rw [hn] at hl
    refine ⟨line1k (by omega), fun p n => ?_⟩
    have lef := Le.fresh (o := .tup vs) n ok1
    have okf := ok1.fresh (o := .tup vs) n
    cases r1 with
    | nil => cases hl
    | cons ra rs =>
      cases rs with
      | nil => cases hl
      | cons rb rs =>
        cases rs with
        | nil => cases hl
        | cons rc rs =>
          cases rs with
          | nil => cases hl
          | cons rd rs =>
            cases rs with
            | nil => exact ⟨p, _, rfl, .inl (.inl upd_same), rfl, _, _, rfl, _, _, rfl, _, _, rfl, _, _, rfl, rfl, q _ _ w1 (le1.trans lef) okf (((((er.le (le1.trans lef)).put (ra.le lef) _).put (rb.le lef) _).put (rc.le lef) _).put (rd.le lef) _)⟩
            | cons _ _ => cases hl
  · cases h
theorem sd_par (is : List Nat) (r : IE) : SndS tb (.par is r) := sndOne (f := fun c x => match x with
      | .Assign [tx] vx _ => (match is with
        | [i, j] => cB2 (.tup (.cons (.var i) (.cons (.var j) .nil))) (.tup r) c tx vx
        | [i, j, l] => cB3 (.tup (.cons (.var i) (.cons (.var j) (.cons (.var l) .nil)))) (.tup r) c tx vx
        | [i, j, l, m] => cB4 [i, j, l, m] r c tx vx
        | _ => false)
      | _ => false) (fun c X cx x h => by
  split at h
  · split at h
    · refine PS.mono (par2_of cx h) fun D σ H ⟨w, st, env, ok, er, h⟩ => ?_
      refine bL cx.mono r ok er h fun evs st1 q vs H1 w1 le1 ok1 r1 hl => ?_
      cases r1 with
      | nil => cases hl
      | cons ra rs =>
        cases rs with
        | nil => cases hl
        | cons rb rs =>
          cases rs with
          | nil => exact ⟨_, _, rfl, q _ H1 w1 le1 ok1 (((er.le le1).put ra _).put rb _)⟩
          | cons _ _ => cases hl
    · refine PS.mono (par3_of cx h) fun D σ H ⟨w, st, env, ok, er, h⟩ => ?_
      refine bL cx.mono r ok er h fun evs st1 q vs H1 w1 le1 ok1 r1 hl => ?_
      cases r1 with
      | nil => cases hl
      | cons ra rs =>
        cases rs with
        | nil => cases hl
        | cons rb rs =>
          cases rs with
          | nil => cases hl
          | cons rc rs =>
            cases rs with
            | nil => exact ⟨_, _, _, rfl, q _ H1 w1 le1 ok1 ((((er.le le1).put ra _).put rb _).put rc _)⟩
            | cons _ _ => cases hl
    · exact par4_of cx h
    · cases h
  · cases h) fun _ => rfl
theorem sd (tb : Tb) : ∀ b : IS, SndS tb b
  | .skip => sd_skip
  | .seq a b => sd_seq (sd tb a) (sd tb b)
  | .asg t e => sd_asg t e
  | .aug o i e => sd_aug o i e
  | .augS o a i e => sd_augS o a i e
  | .setI a i e => sd_setI a i e
  | .app a e => sd_app a e
  | .ext a e => sd_ext a e
  | .ins a i e => sd_ins a i e
  | .exp e => sd_exp e
  | .clr a => sd_clr a
  | .ifs t a b => sd_ifs t (sd tb a) (sd tb b)
  | .whl t b => sd_whl t (sd tb b)
  | .fr t it b => sd_fr t it (sd tb b)
  | .ret e => sd_ret e
  | .ret0 => sd_ret0
  | .brk => sd_brk
  | .cont => sd_cont
  | .never => sd_never
  | .freeze i => sd_freeze i
  | .par is r => sd_par is r
end
end VI

/-! VI16: a def by its piece; the law's end. -/
namespace VI
open PySem PySem.Spec PyProof.Rows L2
theorem guards_deeper {A : Around} {env : Env} (h : A.guards = some []) : (A.deeper env).guards = some [] := by
  first | exact h | (simpa [Around.deeper] using h)
theorem CxOk.wishD {tb : Tb} {c : Ctx} {X : Cx} (h : CxOk tb c X) : CxOk tb c X := h
/-- a frame is left -/
theorem leave {K : PySem.W.Frag} {H H' : Hp} {w w' : Wd} {g : List (List D)} {s : Sto} (hla : w.la = []) (le : Le H w ⟨g, []⟩ H' w' s) (ok : WOk K H' w' s) :
    Le H w ⟨g, []⟩ H' ⟨w'.mu, [], w'.F⟩ ⟨s.g, []⟩ ∧ WOk K H' ⟨w'.mu, [], w'.F⟩ ⟨s.g, []⟩ ∧ ∀ v ev (k : EV → Prop), EVRep K H' w' s v ev → outE ev s k → ∃ ev', EVRep K H' ⟨w'.mu, [], w'.F⟩ ⟨s.g, []⟩ v ev' ∧ k ev' := by
  have hM : ∀ a, Wd.M ⟨w'.mu, [], w'.F⟩ ⟨s.g, []⟩ a → w'.M s a := fun a q => by
    rcases q with q | ⟨i, ys, q, q2⟩ | q
    · exact .inl q
    · have q : ([] : List Addr)[i]? = some a := q
      rw [List.getElem?_nil] at q
      cases q
    · exact .inr (.inr q)
  have fr : Fr H' w' s H' ⟨w'.mu, [], w'.F⟩ ⟨s.g, []⟩ := fun a o h m => ⟨h, fun q => m (hM a q)⟩
  refine ⟨⟨le.F, le.mu, ⟨[], by simp [hla]⟩, fun a o h m => let z := le.fr a o h m; ⟨z.1, fun q => z.2 (hM a q)⟩, le.fo⟩, ⟨ok.lg, rfl, fun i xs h => ?_, fun i xs h => ?_, fun i a h e => ?_, ?_, fun a h => ?_⟩, fun v ev k r h => ?_⟩
  · obtain ⟨a, vs, e, z, q⟩ := ok.g i xs h
    exact ⟨a, vs, e, z, q.conv fr⟩
  · have h : ([] : List (Option (List D)))[i]? = some (some xs) := h
    rw [List.getElem?_nil] at h
    cases h
  · have h : ([] : List (Option (List D)))[i]? = some none := h
    rw [List.getElem?_nil] at h
    cases h
  · show (w'.mu ++ []).Nodup
    rw [List.append_nil]
    exact ok.nd.sublist (List.sublist_append_left _ _)
  · obtain ⟨q1, q2, _⟩ := ok.fF a h
    exact ⟨q1, q2, fun z => by cases z⟩
  · cases ev with
    | d x => exact ⟨.d x, Rep.conv fr r, h⟩
    | gm n => exact ⟨.gm n, r, h⟩
    | sc x => exact h.elim
    | lm n =>
      have h : (match s.l[n]? with
        | some (some xs) => k (.d (.list xs))
        | _ => False) := h
      split at h
      · rename_i xs hx
        obtain ⟨a, rfl, ha⟩ := r
        obtain ⟨a', vs, e, z, q⟩ := ok.l n xs hx
        rw [ha] at e
        cases e
        have hmem : a ∈ w'.la := List.mem_iff_getElem?.mpr ⟨n, ha⟩
        refine ⟨.d (.list xs), Rep.lst z (fun q => ?_) (q.conv fr), h⟩
        rcases q with q | ⟨i, ys, q, q2⟩ | q
        · exact nodup_parts ok.nd q hmem
        · have q : ([] : List Addr)[i]? = some a := q
          rw [List.getElem?_nil] at q
          cases q
        · exact (ok.fF a q).2.2 hmem
      · exact h.elim
/-! ### defs -/
section
variable (P : Program) (w : World) (K : PySem.W.Frag) (mg : Str → Option Value) (base : Heap)
/-- a def that stands in the module, by its meaning -/
structure Good (k : Nat) (x : Str) (ar : Nat) (f : Sem) : Prop where
  ok : ∃ (fa : Addr) (fd : FuncData) (ps : List Str), FnOkG P w K mg base k fa fd ps (spG K ar f) ∧ mg x = some (.ref fa) ∧ PySem.W.keepIn K (.ref fa) = true ∧ Binds K fd ps []
  mono : SemMono f
def AllGood (k : Nat) : List (Str × Nat × Sem) → Prop
  | [] => True
  | q :: r => Good P w K mg base k q.1 q.2.1 q.2.2 ∧ AllGood k r
def AllGl : List (Str × D) → Prop
  | [] => True
  | q :: r => (∃ u v, mg q.1 = some u ∧ RelV v u ∧ ∀ H M, Rep K H M v q.2) ∧ AllGl r
/-- what is known of the module -/
structure ModG (im : Im) : Prop where
  mgn : ∀ x ∈ bltNames, mg x = none
  gcd : im.g = true → mg "gcd" = some (.builtin "math.gcd")
  isq : im.i = true → mg "isqrt" = some (.builtin "math.isqrt")
  nodig : base.NoDigits
end
section
variable {P : Program} {w : World} {K : PySem.W.Frag} {mg : Str → Option Value} {base : Heap}
theorem FnOkG.up {j k : Nat} {f : Addr} {fd : FuncData} {ps : List Str} {sp : Sp} (F : FnOkG P w K mg base j f fd ps sp) (h : j ≤ k) : FnOkG P w K mg base k f fd ps sp :=
  ⟨F.len, fun A outer s H args us vs Q E hr => F.run A outer s H args us vs Q E (hr.mono h)⟩
theorem Good.up {j k : Nat} {x : Str} {ar : Nat} {f : Sem} (g : Good P w K mg base j x ar f) (h : j ≤ k) : Good P w K mg base k x ar f :=
  ⟨let ⟨fa, fd, ps, F, z⟩ := g.ok; ⟨fa, fd, ps, F.up h, z⟩, g.mono⟩
theorem AllGood.get {k : Nat} : ∀ {l : List (Str × Nat × Sem)}, AllGood P w K mg base k l → ∀ q ∈ l, Good P w K mg base k q.1 q.2.1 q.2.2
  | [], _, _, h => by cases h
  | a :: r, g, q, h => by
    rcases List.mem_cons.mp h with e | e
    · rw [e]; exact g.1
    · exact AllGood.get g.2 q e
theorem AllGl.get : ∀ {l : List (Str × D)}, AllGl K mg l → ∀ q ∈ l, ∃ u v, mg q.1 = some u ∧ RelV v u ∧ ∀ H M, Rep K H M v q.2
  | [], _, _, h => by cases h
  | a :: r, g, q, h => by
    rcases List.mem_cons.mp h with e | e
    · rw [e]; exact g.1
    · exact AllGl.get g.2 q e
theorem AllGood.nil {k : Nat} : AllGood P w K mg base k [] := trivial
theorem AllGood.cons {k : Nat} {q : Str × Nat × Sem} {r : List (Str × Nat × Sem)} (g : Good P w K mg base k q.1 q.2.1 q.2.2) (a : AllGood P w K mg base k r) : AllGood P w K mg base k (q :: r) := ⟨g, a⟩
theorem AllGl.nil : AllGl K mg [] := trivial
theorem AllGl.cons {q : Str × D} {r : List (Str × D)} (g : ∃ u v, mg q.1 = some u ∧ RelV v u ∧ ∀ H M, Rep K H M v q.2) (a : AllGl K mg r) : AllGl K mg (q :: r) := ⟨g, a⟩
theorem spG_imp {ar : Nat} {f f' : Sem} (h : ∀ vs g Q, f' vs g Q → f vs g Q) {vs : List V} {H : Hp} {Q : VK} {E : XK} (q : spG K ar f' vs H Q E) : spG K ar f vs H Q E :=
  let ⟨a, w, g, evs, b, c, d, e⟩ := q; ⟨a, w, g, evs, b, c, d, h _ _ _ e⟩
abbrev outQ (K : PySem.W.Frag) (H : Hp) (w : Wd) (g : List (List D)) (Q : VK) : EV → List (List D) → Prop := fun ev g' => ∀ v H' w', w'.la = [] → Le H w ⟨g, []⟩ H' w' ⟨g', []⟩ → WOk K H' w' ⟨g', []⟩ → EVRep K H' w' ⟨g', []⟩ v ev → Q v H'
theorem EVReps.get {H : Hp} {w : Wd} {st : Sto} : ∀ {vs : List V} {evs : List EV} {i : Nat} {ev : EV}, EVReps K H w st vs evs → evs[i]? = some ev → ∃ v, vs[i]? = some v ∧ EVRep K H w st v ev
  | _, _, _, _, .nil, e => by simp at e
  | _, _, 0, _, .cons r _, e => by simp at e; subst e; exact ⟨_, rfl, r⟩
  | _, _, i + 1, _, .cons _ t, e => by
    obtain ⟨v, h1, h2⟩ := EVReps.get (i := i) t (by simpa using e)
    exact ⟨v, by simpa using h1, h2⟩
/-- the body's reading at the entry -/
theorem entry {tb : Tb} (ht : tb.Mono) {b : IS} {N ps : List Str} (hps : ps.length ≤ N.length) {vs : List V} {H : Hp} {Q : VK} {E : XK} (h : spG K ps.length (semF tb N.length b) vs H Q E) : TSs K tb b { nx := fun _ H' => Q .non H', rt := Q } (L2.start N vs) H := by
  obtain ⟨hl, w, g, evs, hla, ok, er, h⟩ := h
  have hel : evs.length = vs.length := by
    clear h hl
    induction er with
    | nil => rfl
    | cons _ _ ih => rw [List.length_cons, List.length_cons, ih]
  have h : semF tb N.length b evs g (outQ K H w g Q) := h
  refine ⟨w, ⟨g, []⟩, evs.map some ++ List.replicate (N.length - evs.length) none, ok, ?_, semS_mono ht b _ _ { nx := fun _ st => outQ K H w g Q (.d .none) st.g, rt := fun ev st => outE ev st fun v => outQ K H w g Q v st.g, bk := fun _ _ => False, ct := fun _ _ => False } _ ⟨fun e s q σ' H' w' le ok' er' => ?_, fun ev s q v H' w' le ok' r' => ?_, fun _ _ z => z.elim, fun _ _ z => z.elim⟩ h⟩
  · refine ⟨by simp [L2.start, hel], fun i ev hi => ?_⟩
    by_cases hlt : i < evs.length
    · rw [List.getElem?_append_left (by simpa using hlt), List.getElem?_map] at hi
      have hg : ∃ v, vs[i]? = some v ∧ EVRep K H w ⟨g, []⟩ v ev := by
        cases he : evs[i]? with
        | none => rw [he] at hi; cases hi
        | some e0 =>
          rw [he] at hi
          cases hi
          exact er.get he
      obtain ⟨v, h1, h2⟩ := hg
      refine ⟨v, ?_, h2⟩
      unfold L2.start
      rw [List.getElem?_append_left (by simp; omega), List.getElem?_map, h1]
      rfl
    · rw [List.getElem?_append_right (by simpa using hlt), List.getElem?_replicate] at hi
      split at hi <;> cases hi
  · obtain ⟨l1, o1, _⟩ := leave hla le ok'
    exact q .non H' _ rfl l1 o1 Rep.non
  · obtain ⟨l1, o1, k1⟩ := leave hla le ok'
    obtain ⟨ev', r1, q1⟩ := k1 v ev (fun v => outQ K H w g Q v s.g) r' q
    exact q1 v H' _ rfl l1 o1 r1
/-- THE RULE: a def of the module, by the check of its body -/
theorem def_fn {k : Nat} {x qual : Str} {params : Arguments} {body : List Stmt} {scope : Scope} {kws : List (Str × V)} {f : Addr} {fd : FuncData} {N ps : List Str} (tb : Tb) (b : IS) {gcd : Im} (M : ModG mg base gcd) (G : AllGood P w K mg base k tb.fn) (L : AllGl K mg tb.gl)
    (F : FunD K x qual params body scope [] kws f fd) (S : FnScope N ps scope) {sp : Sem} (himp : ∀ vs g Q, sp vs g Q → semF tb N.length b vs g Q)
    (hck : (ckS b ⟨N, scope, fun _ => true, tb.fn.map fun q => (q.1, q.2.1), tb.gl.map (·.1), gcd⟩).ss body = true) : FnOkG P w K mg base (k + 1) f fd ps (spG K ps.length sp) := by
  have mono : tb.Mono := Tb.mono_of fun q hq => (G.get q hq).mono
  have hpl : ps.length ≤ N.length := by have := congrArg List.length S.pre; rw [List.length_take] at this; omega
  obtain ⟨oc, od, dV, kV, doc, pm, an, cdv, ct, osl, rfl, lk, hcd, _, _⟩ := F.ex
  refine ⟨fun vs H Q E h => h.1, fun A outer s H args us vs Q E hr hg e0 hbt r hsp => ?_⟩
  have KX : K.In s.heap := e0.mod.kin.keeps fun b o e => (e0.bs b o e).1
  have lim : s.heap.NoLimit := e0.mod.nolimit.keeps fun b o e => (e0.bs b o e).1
  refine codeAny_call_function hr.depth (KX _ _ lk) rfl S.co S.gen rfl (PySem.W.codeRec_of KX hcd) (hbt _ _ _ _ ?_)
  refine wpAny_newFunctionEnv_cells S.kind (fun ⟨n, v⟩ hy => ?_) fun env he s1 x1 => ?_
  · rcases S.par n (List.of_mem_zip hy).1 with q | q
    · exact .inl q
    · exact .inr ⟨q, PySem.W.cellsFrom_some _ _ _ (.inl q)⟩
  subst he
  refine ⟨lim.keeps x1.toInCall.keep, codeAny_func ?_⟩
  have hr' := hr.deeper (envOfC qual scope s.heap.objs.size f cdv)
  have cx : CxOk tb ⟨N, scope, fun _ => true, tb.fn.map fun q => (q.1, q.2.1), tb.gl.map (·.1), gcd⟩ (cxOf CX0 P w K mg base N qual scope f cdv A outer s H E).nox :=
    { xo := ⟨rfl, rfl, by have := hr'.un; show (A.deeper _).units + 65 < cLine; omega, guards_deeper hg, M.nodig⟩, mono := mono, N := rfl, nd := S.nd, sc := rfl, fn := fun _ _ => rfl, fns := rfl, gls := rfl,
      ok := fun n q hq => ⟨let ⟨fa, fd, ps', F', z1, z2, z3⟩ := (G.get q (List.mem_of_getElem? hq)).ok; ⟨fa, fd, ps', k, F', hr', z1, z2, z3⟩⟩,
      gk := fun n q hq => L.get q (List.mem_of_getElem? hq), mgn := M.mgn, gcd := M.gcd, isq := M.isq }
  have ht : PSs (cxOf CX0 P w K mg base N qual scope f cdv A outer s H E) body (TSs K tb b) := PSs.nox ((sd tb b).ss _ _ cx body hck)
  have hq := entry mono hpl (spG_imp himp hsp)
  have I : Inv (cxOf CX0 P w K mg base N qual scope f cdv A outer s H E) [] (L2.start N vs) H s1 := inv_start S hr.hd e0 hsp.1 r x1
  refine wpAny_mono (ht.run [] s1 (L2.start N vs) H _ I hq) (fun fl s' hs => ?_) fun e s' hs => hs
  have fin : ∀ {σ' : L2.St} {H' : Hp} {v : V} {u : Value}, Inv (cxOf CX0 P w K mg base N qual scope f cdv A outer s H E) [] σ' H' s' → RelV v u → Q v H' → CE outer P w H s Q u s' :=
    fun {σ' H' v u} J rv q => ⟨v, H', J.os, J.bare, J.base, J.hok, rv, q⟩
  cases fl with
  | ret u =>
    obtain ⟨v, σ', H', J, rv, q⟩ := hs
    exact fin J rv q
  | next =>
    obtain ⟨σ', H', J, q⟩ := hs
    exact fin (v := V.non) (u := Value.none) J rfl q
  | brk =>
    obtain ⟨_, _, _, q⟩ := hs
    exact False.elim q
  | cont =>
    obtain ⟨_, _, _, q⟩ := hs
    exact False.elim q
theorem def_ok {k : Nat} {x y qual : Str} {params : Arguments} {body : List Stmt} {scope : Scope} {kws : List (Str × V)} {f : Addr} {fd : FuncData} {N ps : List Str} (tb : Tb) (b : IS) {gcd : Im} (M : ModG mg base gcd) (G : AllGood P w K mg base k tb.fn) (L : AllGl K mg tb.gl)
    (F : FunD K x qual params body scope [] kws f fd) (S : FnScope N ps scope) (hb : Binds K fd ps []) (hx : mg y = some (.ref f)) {sp : Sem} (hm : SemMono sp) (himp : ∀ vs g Q, sp vs g Q → semF tb N.length b vs g Q)
    (hck : (ckS b ⟨N, scope, fun _ => true, tb.fn.map fun q => (q.1, q.2.1), tb.gl.map (·.1), gcd⟩).ss body = true) : Good P w K mg base (k + 1) y ps.length sp :=
  ⟨⟨f, fd, ps, def_fn tb b M G L F S himp hck, hx, F.kp, hb⟩, hm⟩
/-- a def that is never called: the ground of one that calls itself -/
def sp_bot : Sem := fun _ _ _ => False
theorem mono_bot : SemMono sp_bot := fun _ _ _ _ _ h => h
theorem def_bot {k : Nat} {x y qual : Str} {params : Arguments} {body : List Stmt} {scope : Scope} {kws : List (Str × V)} {f : Addr} {fd : FuncData} {ps : List Str}
    (F : FunD K x qual params body scope [] kws f fd) (hb : Binds K fd ps []) (hx : mg y = some (.ref f)) : Good P w K mg base k y ps.length sp_bot :=
  ⟨⟨f, fd, ps, ⟨fun vs H Q E h => h.1, fun A outer s H args us vs Q E hr hg e0 hbt r hsp => by
    obtain ⟨_, _, _, _, _, _, _, h⟩ := hsp
    exact False.elim h⟩, hx, F.kp, hb⟩, mono_bot⟩
end
/-! ### the law -/
/-- the law's promise is enough -/
theorem spG_law {K : PySem.W.Frag} {f : Sem} (hm : SemMono f) {H : Hp} {a : Addr} {ns : List Int} {E : XK} (hS : SqL K H a (ns.map V.int)) (h : f [.sc (ns.map PyData.int)] [] fun ev _ => ev = .d (.bool true)) :
    spG K 1 f [.ref a] H (fun v _ => v = .bl true) E := by
  have rs : Reps K H (Wd.M ⟨[], [], fun _ => False⟩ ⟨[], []⟩) (ns.map V.int) (ns.map PyData.int) := by
    clear h hS
    induction ns with
    | nil => exact .nil
    | cons n ns ih => exact .cons (.int n) ih
  have nM : ¬ Wd.M ⟨[], [], fun _ => False⟩ ⟨[], []⟩ a := by
    rintro (q | ⟨i, ys, q, _⟩ | q)
    · cases q
    · have q : ([] : List Addr)[i]? = some a := q
      rw [List.getElem?_nil] at q
      cases q
    · exact q
  refine ⟨rfl, ⟨[], [], fun _ => False⟩, [], [.sc (ns.map PyData.int)], rfl, ⟨rfl, rfl, fun i xs q => ?_, fun i xs q => ?_, fun i b q => ?_, List.nodup_nil, fun b q => q.elim⟩, .cons ⟨a, _, rfl, hS.elim (fun z => .inl ⟨z, nM⟩) .inr, rs⟩ .nil, hm _ _ _ _ (fun ev g e v H' w' _ _ _ r => ?_) h⟩
  · simp at q
  · simp at q
  · simp at q
  · subst e
    cases (show Rep _ _ _ v _ from r)
    rfl
theorem walk_ofG {l : PySem.W.OpenLaw} {n k : Nat} {q : Program} {loose : List Str} {XP : (Str → Option Value) → Heap → Prop} {YP : World → Heap → Prop} {d : DefRec} {x : Str} {f : Sem}
    (hn : l.most = some n) (hn2 : n ≤ sizeLine) (hdf : d.params.defaults = []) (hr : Room k callerA) (hm : SemMono f)
    (F : ∀ (w : World) (mg : Str → Option Value) (fa : Addr) (h : Heap), YP w h → h.Ns mainGlobals mg → mg d.name = some (.ref fa) →
      ∃ (K : PySem.W.Frag) (fd : FuncData), K.In h ∧ (∀ (s : Shared) (u : Value), BindsTo s fd ⟨[u], []⟩ [(x, u)]) ∧ ∀ base : Heap, K.In base → base.Ns mainGlobals mg → base.NoDigits → FnOkG l.prog w K mg base k fa fd [x] (spG K 1 f))
    (hlaw : ∀ ns : List Int, ns.length ≤ n → f [.sc (ns.map PyData.int)] [] fun ev _ => ev = .d (.bool true)) :
    PySem.W.WalkO q loose XP YP l.row.toRowW d [] (fun f vs => PySem.call f vs) := by
  refine Att.attach_call hn hdf fun w s₀ s₁ mg mb fa o pm cd doc a vs ns G Y ho hd hcd hmg hobj hints hlen hg => ?_
  obtain ⟨K, fd, KX, hbind, hF⟩ := F w mg fa _ Y G.T.g hmg
  have rv := vals_ints hints
  have lenV := hints.length
  have hl : ns.length ≤ sizeLine := Nat.le_trans hlen hn2
  obtain ⟨H, hO, hS, hok, hA, hK⟩ : ∃ H : Hp, Only H ∧ SqL K H a (ns.map V.int) ∧ HOk l.prog w H s₁.heap ∧ (∀ b, H b ≠ none → b = a) ∧ (H a ≠ none → K.lookup a = none) := by
    cases hk : K.lookup a with
    | some ob =>
      have e := KX a ob hk
      rw [hobj] at e
      cases e
      exact ⟨fun _ => none, fun _ => .inl rfl, .inr ⟨_, vs.toArray, _, hk, rfl, rfl, rfl, by rw [List.size_toArray, lenV]; exact hl, by simpa using rv⟩, (fun b u z => nomatch (show (none : Option HO) = some u from z)), fun b z => absurd rfl z, fun z => absurd rfl z⟩
    | none =>
      refine ⟨fun b => if b = a then some (.frz { cls := .type "list", data := .seq vs.toArray } (.lst (ns.map V.int))) else none, fun b => ?_, .inl (.inr ⟨_, if_pos rfl⟩), fun b u z => ?_, fun b z => ?_, fun _ => rfl⟩
      · by_cases hb : b = a
        · exact .inr ⟨_, _, if_pos hb⟩
        · exact .inl (if_neg hb)
      · by_cases hb : b = a
        · have z' := (if_pos hb).symm.trans z
          cases z'
          subst hb
          exact ⟨hobj, by rw [List.length_map]; exact hl, vs, _, rv, hobj⟩
        · have z' := (if_neg hb).symm.trans z
          cases z'
      · by_cases hb : b = a
        · exact hb
        · exact absurd (if_neg hb) z
  have atA : ∀ {b : Addr}, H b ≠ none → b = a := fun {b} => hA b
  have free : ∀ {b : Addr} {o : Obj}, s₁.heap.get? b = some o → o ≠ { cls := .type "list", data := .seq vs.toArray } → H b = none := fun {b o} e ne => by
    cases q : H b with
    | none => rfl
    | some u =>
      have e' := atA (b := b) (by rw [q]; simp)
      subst e'
      rw [hobj] at e
      cases e
      exact absurd rfl ne
  have nsK : ∀ {b : Addr} {m : Str → Option Value}, s₁.heap.Ns b m → (hidT s₁.heap H).Ns b m := fun {b m} ⟨o, es, ep, e, dd, r⟩ =>
    ⟨o, es, ep, hidT_get e (free e fun z => by rw [z] at dd; cases dd), dd, r⟩
  have hKb : K.In (hidT s₁.heap H) := fun b ob e => hidT_get (KX b ob e) (by
    cases q : H b with
    | none => rfl
    | some u =>
      have e' := atA (b := b) (by rw [q]; simp)
      subst e'
      rw [hK (by rw [q]; simp)] at e
      cases e)
  have hM : Mod K mg (hidT s₁.heap H) := ⟨hKb, nsK G.T.g, ⟨mb, nsK G.T.b, G.T.builtins⟩, let ⟨mc, h1, h2⟩ := G.T.nolimit; ⟨mc, nsK h1, h2⟩⟩
  have nd : (hidT s₁.heap H).NoDigits := let ⟨mc, h1, h2⟩ := G.T.nodigits; ⟨mc, nsK h1, h2⟩
  have e0 : Env0 l.prog w K mg (hidT s₁.heap H) callerA [] s₁ H := ⟨rfl, hM, fun b ob e => of_hidT e, Nat.le_of_eq (hidT_size _ _), trivial, fun b hb => absurd (show b ∈ ([] : List Addr) from hb) (by simp), hok, .of_eq hg⟩
  refine codeAny_mono ((hF _ hKb (nsK G.T.g) nd).run callerA [] s₁ H ⟨[.ref a], []⟩ [.ref a] [.ref a] (fun v _ => v = .bl true) (fun _ _ _ => False) hr rfl e0 (hbind s₁ (.ref a)) (.cons rfl .nil) (spG_law hm hS (hlaw ns hlen))) fun r s' h => ?_
  cases r with
  | error e => exact False.elim h
  | ok fl =>
    cases fl with
    | next => exact False.elim h
    | brk => exact False.elim h
    | cont => exact False.elim h
    | ret u =>
      obtain ⟨v, H', os, bare, un, hok', r', q⟩ := h
      have q' : v = .bl true := q
      subst q'
      obtain rfl : u = Value.bool true := r'
      refine ⟨rfl, OldK.of_keep fun b ob e => ?_, os, bare⟩
      cases q : H b with
      | none => exact un.keep b ob e q (by intro z; exact absurd (show b ∈ ([] : List Addr) from z) (by simp)) (by simp)
      | some u =>
        rcases hO b with z | ⟨o2, xs, z⟩
        · rw [q] at z; cases z
        · have z2 := un.frzs b o2 _ z
          obtain ⟨e1, _⟩ := hok b _ z
          obtain ⟨e2, _⟩ := hok' b _ z2
          rw [e] at e1; cases e1
          exact e2
end VI

/-! VI17: a module's constants. -/
namespace VI
open PySem PySem.Spec PyProof.Rows L2
mutual
theorem repB_ok {K : PySem.W.Frag} : ∀ {d : D} {u : Value}, repB K d u = true → ∃ v, RelV v u ∧ ∀ H M, Rep K H M v d
  | .none, u, h => by
    cases u <;> first | exact ⟨.non, rfl, fun _ _ => .non⟩ | (simp [repB] at h)
  | .bool a, u, h => by
    cases u with
    | bool b =>
      simp only [repB] at h
      have e := eq_of_beq h
      subst e
      exact ⟨.bl a, rfl, fun _ _ => .bl a⟩
    | _ => simp [repB] at h
  | .int i, u, h => by
    cases u with
    | int j t =>
      simp only [repB] at h
      have e := of_decide_eq_true h
      subst e
      exact ⟨.int i, ⟨t, rfl⟩, fun _ _ => .int i⟩
    | _ => simp [repB] at h
  | .str x, u, h => by
    cases u with
    | str y t =>
      simp only [repB] at h
      have e := of_decide_eq_true h
      subst e
      exact ⟨.str x, ⟨t, rfl⟩, fun _ _ => .str x⟩
    | _ => simp [repB] at h
  | .tuple ds, u, h => by
    cases u with
    | ref a =>
      simp only [repB] at h
      cases q : K.lookup a with
      | none => rw [q] at h; cases h
      | some o =>
        rw [q] at h
        obtain ⟨oc, od, dt, sl⟩ := o
        cases oc with
        | type c =>
          cases dt with
          | seq its n =>
            obtain ⟨h1, h2⟩ := band h
            obtain ⟨h2, h3⟩ := band h2
            obtain ⟨vs, rv, rr⟩ := repsB_ok h3
            refine ⟨.ref a, rfl, fun H M => .tup (.inr ⟨_, its, n, q, ?_, rfl, line1k (of_decide_eq_true h2), rv⟩) (rr H M)⟩
            show Value.type c = _
            rw [of_decide_eq_true h1]
          | _ => cases h
        | _ => cases dt <;> cases h
    | _ => simp [repB] at h
  | .list ds, u, h => by
    cases u <;> simp [repB] at h
  | .dict ds, u, h => by
    cases u <;> simp [repB] at h
theorem repsB_ok {K : PySem.W.Frag} : ∀ {ds : List D} {us : List Value}, repsB K ds us = true → ∃ vs, Vals vs us ∧ ∀ H M, Reps K H M vs ds
  | [], [], _ => ⟨[], .nil, fun _ _ => .nil⟩
  | [], _ :: _, h => by simp [repsB] at h
  | _ :: _, [], h => by simp [repsB] at h
  | d :: ds, u :: us, h => by
    simp only [repsB] at h
    obtain ⟨h1, h2⟩ := band h
    obtain ⟨v, r, rr⟩ := repB_ok h1
    obtain ⟨vs, q, qq⟩ := repsB_ok h2
    exact ⟨v :: vs, .cons r q, fun H M => .cons (rr H M) (qq H M)⟩
end
/-- the module's name x stands for the data d -/
theorem conB_ok {K : PySem.W.Frag} {h : Heap} {mg : Str → Option Value} {x : Str} {d : D} (X : K.In h) (G : h.Ns mainGlobals mg) (c : conB K x d = true) : ∃ u v, mg x = some u ∧ RelV v u ∧ ∀ H M, Rep K H M v d := by
  unfold conB at c
  cases e : PySem.W.nsIn K mainGlobals x with
  | none => rw [e] at c; cases c
  | some o =>
    rw [e] at c
    cases o with
    | none => cases c
    | some u =>
      obtain ⟨v, r, rr⟩ := repB_ok c
      exact ⟨u, v, PySem.W.mg_of X G e, r, rr⟩
end VI

/-! PL: plain lemmas. -/
namespace VI
open PySem
/-! ### bounds -/
def Bd (k : Nat) (x : Int) : Prop := x.natAbs < 2 ^ k
theorem Bd.up {k l : Nat} {x : Int} (h : Bd k x) (e : k ≤ l) : Bd l x := Nat.lt_of_lt_of_le h (Nat.pow_le_pow_right (by decide) e)
theorem Bd.mul {k l : Nat} {x y : Int} (h : Bd k x) (h' : Bd l y) : Bd (k + l) (x * y) := by
  unfold Bd at *
  rw [Int.natAbs_mul, Nat.pow_add]
  exact Nat.mul_lt_mul'' h h'
theorem Bd.add {k l : Nat} {x y : Int} (h : Bd k x) (h' : Bd l y) : Bd (max k l + 1) (x + y) := by
  have h1 := h.up (Nat.le_max_left k l)
  have h2 := h'.up (Nat.le_max_right k l)
  unfold Bd at *
  have := Int.natAbs_add_le x y
  rw [Nat.pow_succ]
  omega
theorem Bd.neg {k : Nat} {x : Int} (h : Bd k x) : Bd k (-x) := by
  unfold Bd at *
  rw [Int.natAbs_neg]
  exact h
theorem Bd.sub {k l : Nat} {x y : Int} (h : Bd k x) (h' : Bd l y) : Bd (max k l + 1) (x - y) := by
  rw [Int.sub_eq_add_neg]
  exact h.add h'.neg
theorem Bd.abs {k : Nat} {x : Int} (h : Bd k x) : Bd k (x.natAbs : Int) := by
  unfold Bd at *
  rw [Int.natAbs_natCast]
  exact h
theorem Bd.of_natAbs {k : Nat} {x y : Int} (h : Bd k x) (e : y.natAbs ≤ x.natAbs) : Bd k y := Nat.lt_of_le_of_lt e h
theorem Bd.emod {k : Nat} {x y : Int} (h : Bd k y) (hy : 0 < y) : Bd k (x % y) := by
  have h1 := Int.emod_nonneg x (Int.ne_of_gt hy)
  have h2 := Int.emod_lt_of_pos x hy
  exact h.of_natAbs (by omega)
theorem Bd.fdiv {k : Nat} {x y : Int} (h : Bd k x) : Bd k (x.fdiv y) := by
  refine h.of_natAbs ?_
  rcases Int.lt_trichotomy y 0 with hy | hy | hy
  · have : x.fdiv y = (-x).fdiv (-y) := by rw [Int.neg_fdiv_neg]
    rw [this, Int.fdiv_eq_ediv_of_nonneg _ (by omega)]
    exact Nat.le_trans (Int.natAbs_ediv_le_natAbs _ _) (by rw [Int.natAbs_neg]; exact Nat.le_refl _)
  · subst hy
    rw [Int.fdiv_zero]
    simp
  · rw [Int.fdiv_eq_ediv_of_nonneg _ (by omega)]
    exact Int.natAbs_ediv_le_natAbs _ _
theorem Bd.gcd {k : Nat} {x y : Int} (h : Bd k y) (hy : y ≠ 0) : Bd k (Int.gcd x y : Int) := by
  refine h.of_natAbs ?_
  rw [Int.natAbs_natCast]
  exact Nat.le_of_dvd (by omega) (Nat.gcd_dvd_right _ _)
theorem Bd.pow {k : Nat} {x : Int} (h : Bd k x) : ∀ n : Nat, Bd (k * n + 1) (x ^ n)
  | 0 => by
    unfold Bd
    simp
  | n + 1 => by
    have ih := Bd.pow h n
    rw [Int.pow_succ]
    refine (ih.mul h).up ?_
    rw [Nat.mul_succ]
    omega
theorem Bd.lit (x : Int) : Bd (x.natAbs.log2 + 1) x := by
  unfold Bd
  exact Nat.lt_log2_self
theorem Bd.lit64 (x : Int) (h : x.natAbs < 18446744073709551616) : Bd 64 x := h
theorem Bd.log {k : Nat} {x : Int} (h : Bd k x) : x.natAbs.log2 ≤ k := by
  by_cases e : x.natAbs = 0
  · rw [e]
    exact Nat.zero_le _
  · exact Nat.le_of_lt ((Nat.log2_lt e).mpr h)
theorem Bd.mulOk {k l : Nat} {x y : Int} (h : Bd k x) (h' : Bd l y) (e : k + l < 1000000) : MulOk x y := by
  unfold MulOk
  have := h.log
  have := h'.log
  omega
theorem Bd.divOk {k : Nat} {y : Int} (h : Bd k y) (hy : y ≠ 0) (e : k < 9000) : y ≠ 0 ∧ y.natAbs.log2 < 9000 := ⟨hy, Nat.lt_of_le_of_lt h.log e⟩
theorem Bd.show {k : Nat} {y : Int} (h : Bd k y) (e : k ≤ 14000) : y.natAbs < 10 ^ 4300 := Nat.lt_of_lt_of_le (h.up e) (by decide +kernel)
/-! ### fractions in lowest terms -/
abbrev P2 : Type := Int × Int
def dF (p : P2) : D := .tuple [.int p.1, .int p.2]
def nrm (n d : Int) : P2 := if 0 < d then (n.fdiv (Int.gcd n d), d.fdiv (Int.gcd n d)) else (n.fdiv (-(Int.gcd n d : Int)), d.fdiv (-(Int.gcd n d : Int)))
structure Can (p : P2) : Prop where
  pos : 0 < p.2
  cop : Int.gcd p.1 p.2 = 1
theorem fdiv_dvd {a b : Int} (h : b ∣ a) (hb : b ≠ 0) : a.fdiv b * b = a := by
  obtain ⟨c, rfl⟩ := h
  rw [Int.mul_fdiv_cancel_left _ hb, Int.mul_comm]
theorem nrm_spec {n d : Int} (hd : d ≠ 0) : ∃ c : Int, c ≠ 0 ∧ n = (nrm n d).1 * c ∧ d = (nrm n d).2 * c ∧ 0 < (nrm n d).2 ∧ c.natAbs = Int.gcd n d := by
  have hg : (0 : Int) < (Int.gcd n d : Int) := by
    have : 0 < Int.gcd n d := Nat.pos_of_ne_zero fun e => hd (Int.eq_zero_of_gcd_eq_zero_right e)
    omega
  have d1 : (Int.gcd n d : Int) ∣ n := Int.gcd_dvd_left _ _
  have d2 : (Int.gcd n d : Int) ∣ d := Int.gcd_dvd_right _ _
  unfold nrm
  by_cases hp : 0 < d
  · rw [if_pos hp]
    refine ⟨Int.gcd n d, by omega, (fdiv_dvd d1 (by omega)).symm, (fdiv_dvd d2 (by omega)).symm, ?_, Int.natAbs_natCast _⟩
    have e := fdiv_dvd d2 (by omega)
    show 0 < d.fdiv _
    apply Int.pos_of_mul_pos_left (b := (Int.gcd n d : Int)) <;> first | (rw [e]; exact hp) | omega
  · rw [if_neg hp]
    have n1 : -(Int.gcd n d : Int) ∣ n := Int.neg_dvd.mpr d1
    have n2 : -(Int.gcd n d : Int) ∣ d := Int.neg_dvd.mpr d2
    refine ⟨-(Int.gcd n d : Int), by omega, (fdiv_dvd n1 (by omega)).symm, (fdiv_dvd n2 (by omega)).symm, ?_, by rw [Int.natAbs_neg, Int.natAbs_natCast]⟩
    have e := fdiv_dvd n2 (by omega)
    show 0 < d.fdiv _
    have e2 : d.fdiv (-(Int.gcd n d : Int)) * (Int.gcd n d : Int) = -d := by
      rw [Int.mul_neg] at e
      omega
    apply Int.pos_of_mul_pos_left (b := (Int.gcd n d : Int)) <;> first | (rw [e2]; omega) | omega
theorem nrm_can {n d : Int} (hd : d ≠ 0) : Can (nrm n d) := by
  obtain ⟨c, hc, h1, h2, h3, h4⟩ := nrm_spec (n := n) hd
  refine ⟨h3, ?_⟩
  have key : ∀ a b : Int, n = a * c → d = b * c → Int.gcd n d = Int.gcd a b * c.natAbs := by
    intro a b e1 e2
    rw [e1, e2]
    exact Int.gcd_mul_right ..
  have e := key _ _ h1 h2
  rw [← h4] at e
  have hc' : 0 < c.natAbs := by omega
  have e2 : 1 * c.natAbs = Int.gcd (nrm n d).1 (nrm n d).2 * c.natAbs := by rw [Nat.one_mul]; exact e
  exact (Nat.eq_of_mul_eq_mul_right hc' e2).symm
theorem nrm_eq {n d : Int} (hd : d ≠ 0) : (nrm n d).1 * d = n * (nrm n d).2 := by
  obtain ⟨c, hc, h1, h2, h3, h4⟩ := nrm_spec (n := n) hd
  generalize nrm n d = p at *
  rw [h1, h2]
  grind
theorem dvd_cop {a b c : Int} (h : b ∣ a * c) (g : Int.gcd a b = 1) : b ∣ c := by
  have h2 : b.natAbs ∣ a.natAbs * c.natAbs := by
    rw [← Int.natAbs_mul]
    exact Int.natAbs_dvd_natAbs.mpr h
  have g2 : Nat.Coprime b.natAbs a.natAbs := by
    rw [Nat.coprime_comm]
    exact g
  exact Int.natAbs_dvd_natAbs.mp (g2.dvd_of_dvd_mul_left h2)
theorem can_uniq {p q : P2} (hp : Can p) (hq : Can q) (e : p.1 * q.2 = q.1 * p.2) : p = q := by
  obtain ⟨a, b⟩ := p
  obtain ⟨c, d⟩ := q
  obtain ⟨p1, p2⟩ := hp
  obtain ⟨q1, q2⟩ := hq
  simp only at *
  have d1 : b ∣ d := by
    have : b ∣ a * d := ⟨c, by rw [e, Int.mul_comm]⟩
    exact dvd_cop this p2
  have d2 : d ∣ b := by
    have : d ∣ c * b := ⟨a, by rw [← e, Int.mul_comm]⟩
    exact dvd_cop this q2
  have e1 : b = d := Int.dvd_antisymm (by omega) (by omega) d1 d2
  subst e1
  have e2 : a = c := Int.eq_of_mul_eq_mul_right (by omega) e
  rw [e2]
theorem nrm_of {p : P2} {n d : Int} (hp : Can p) (hd : d ≠ 0) (e : p.1 * d = n * p.2) : nrm n d = p := by
  refine can_uniq (nrm_can hd) hp ?_
  have h := nrm_eq (n := n) hd
  have : ((nrm n d).1 * p.2) * d = (p.1 * (nrm n d).2) * d := by grind
  exact Int.eq_of_mul_eq_mul_right hd this
theorem Bd.nrm1 {k : Nat} {n d : Int} (h : Bd k n) : Bd k (nrm n d).1 := by
  unfold nrm
  split <;> exact h.fdiv
theorem Bd.nrm2 {k : Nat} {n d : Int} (h : Bd k d) : Bd k (nrm n d).2 := by
  unfold nrm
  split <;> exact h.fdiv
/-! ### the bag -/
def BagAt (C : Nat) (xs : List D) : Prop := ∃ (a b c : Int) (cs : List Int), xs = [.int a, .int b, .int c, .list (cs.map PyData.int)] ∧ Bd 31 b ∧ 0 ≤ c ∧ c ≤ C ∧ cs.length ≤ 63
theorem BagAt.up {C E : Nat} {xs : List D} (h : BagAt C xs) (e : C ≤ E) : BagAt E xs := let ⟨a, b, c, cs, h1, h2, h3, h4, h5⟩ := h; ⟨a, b, c, cs, h1, h2, h3, by omega, h5⟩
end VI

/-! PL2: data that may be compared and shown. -/
namespace VI
open PySem
theorem textFrom_up : ∀ (ts : List Str) (k : Nat) (acc : Str), (textFrom k acc ts).length ≤ acc.length + piled ts
  | [], k, acc => by
    show acc.length ≤ acc.length + piled []
    omega
  | t :: r, k, acc => by
    have h := textFrom_up r (k + 1) (acc ++ (if k > 0 then ", " else "" : String) ++ t)
    have e : (acc ++ (if k > 0 then ", " else "" : String) ++ t).length ≤ acc.length + 2 + t.length := by
      rw [strLen_append, strLen_append]
      split
      · show acc.length + 2 + t.length ≤ _
        omega
      · show acc.length + 0 + t.length ≤ _
        omega
    rw [piled_cons]
    show (textFrom (k + 1) _ r).length ≤ _
    omega
theorem listText_up (ts : List Str) : (listText ts).length ≤ 2 + piled ts := by
  unfold listText
  rw [strLen_append]
  have h := textFrom_up ts 0 "["
  have e1 : (("[" : String) : Str).length = 1 := rfl
  have e2 : (("]" : String) : Str).length = 1 := rfl
  omega
theorem tupleText_up (ts : List Str) : (tupleText ts).length ≤ 4 + piled ts := by
  unfold tupleText
  rw [strLen_append, strLen_append]
  have e1 : (("(" : String) : Str).length = 1 := rfl
  have e2 : (((if ts.length == 1 then ",)" else ")" : String)) : Str).length ≤ 2 := by
    split
    · exact Nat.le_refl _
    · show 1 ≤ 2
      omega
  by_cases h : ts = []
  · subst h
    have e3 : (Str.join ", " []).length = 0 := rfl
    omega
  · have := join_length_add ts h
    omega
/-- may be compared, may be shown -/
structure Fit (k w : Nat) (d : D) : Prop where
  lay : d.canLay0 = true
  shw : showB d = true
  dep : d.depth ≤ k
  len : d.shown.length ≤ w
theorem Fit.up {k w k' w' : Nat} {d : D} (h : Fit k w d) (e : k ≤ k') (e' : w ≤ w') : Fit k' w' d := ⟨h.lay, h.shw, Nat.le_trans h.dep e, Nat.le_trans h.len e'⟩
theorem Fit.rep {k w : Nat} {d : D} (h : Fit k w d) (e : k ≤ 64) (e' : w ≤ 16000000) : RepOk d :=
  ⟨Bool.and_eq_true_iff.mpr ⟨h.lay, decide_eq_true (Nat.le_trans h.dep e)⟩, h.shw, Nat.le_trans h.len e'⟩
theorem Fit.shp {k w : Nat} {d : D} (h : Fit k w d) (e : k ≤ 64) : Shp d := Bool.and_eq_true_iff.mpr ⟨h.lay, decide_eq_true (Nat.le_trans h.dep e)⟩
theorem Fit.int {i : Int} (h : i.natAbs < 10 ^ 4300) : Fit 0 4310 (.int i) := ⟨rfl, decide_eq_true h, Nat.le_refl _, by
  show (Str.ofString (toString i)).length ≤ 4310
  have e := int_text_length_le10 (k := 4300) (by decide) h
  clear h
  rw [ofString_length]
  omega⟩
theorem Fit.bd {k : Nat} {i : Int} (h : Bd k i) (e : k ≤ 14000) : Fit 0 4310 (.int i) := Fit.int (h.show e)
theorem Fit.bool (b : Bool) : Fit 0 5 (.bool b) := ⟨rfl, rfl, Nat.le_refl _, by cases b <;> decide⟩
theorem Fit.none : Fit 0 5 .none := ⟨rfl, rfl, Nat.le_refl _, by decide⟩
theorem all_fit {k w : Nat} : ∀ {ds : List D}, (∀ d ∈ ds, Fit k w d) → PyData.canLayAll0 ds = true ∧ showBs ds = true ∧ PyData.depthAll ds ≤ k ∧ piled (PyData.shownAll ds) ≤ ds.length * (w + 2)
  | [], _ => ⟨by simp [PyData.canLayAll0], by simp [showBs], by simp [PyData.depthAll], by simp [PyData.shownAll, piled]⟩
  | d :: ds, h => by
    obtain ⟨h1, h2, h3, h4⟩ := all_fit fun x hx => h x (List.mem_cons_of_mem _ hx)
    have f := h d List.mem_cons_self
    refine ⟨?_, ?_, ?_, ?_⟩
    · simp [PyData.canLayAll0, h1, f.lay]
    · simp [showBs, h2, f.shw]
    · simp only [PyData.depthAll]
      have := f.dep
      omega
    · simp only [PyData.shownAll, piled_cons, List.length_cons]
      have := f.len
      rw [Nat.add_mul]
      omega
theorem Fit.tup {k w : Nat} {ds : List D} (h : ∀ d ∈ ds, Fit k w d) : Fit (k + 1) (4 + ds.length * (w + 2)) (.tuple ds) := by
  obtain ⟨h1, h2, h3, h4⟩ := all_fit h
  refine ⟨by simp only [PyData.canLay0]; exact h1, by simp only [showB]; exact h2, by simp only [PyData.depth]; omega, ?_⟩
  simp only [PyData.shown]
  have := tupleText_up (PyData.shownAll ds)
  omega
theorem Fit.lst {k w : Nat} {ds : List D} (h : ∀ d ∈ ds, Fit k w d) : Fit (k + 1) (4 + ds.length * (w + 2)) (.list ds) := by
  obtain ⟨h1, h2, h3, h4⟩ := all_fit h
  refine ⟨by simp only [PyData.canLay0]; exact h1, by simp only [showB]; exact h2, by simp only [PyData.depth]; omega, ?_⟩
  simp only [PyData.shown]
  have := listText_up (PyData.shownAll ds)
  omega
theorem all_nil {P : D → Prop} : ∀ d ∈ ([] : List D), P d := fun _ h => by cases h
theorem all_cons {P : D → Prop} {x : D} {xs : List D} (h : P x) (t : ∀ d ∈ xs, P d) : ∀ d ∈ x :: xs, P d := fun d hd => (List.mem_cons.mp hd).elim (fun e => by rw [e]; exact h) (t d)
mutual
theorem eqv_refl0 : ∀ d : D, d.canLay0 = true → PyData.eqv d d = true
  | .none, _ => by rw [PyData.eqv]
  | .bool b, _ => by rw [PyData.eqv]; exact beq_self_eq_true b
  | .int i, _ => by rw [PyData.eqv]; exact beq_self_eq_true i
  | .str x, _ => by rw [PyData.eqv]; exact beq_self_eq_true x
  | .list xs, h => by rw [PyData.eqv]; exact eqvs_refl0 xs (by simpa only [PyData.canLay0] using h)
  | .tuple xs, h => by rw [PyData.eqv]; exact eqvs_refl0 xs (by simpa only [PyData.canLay0] using h)
  | .dict _, h => by simp [PyData.canLay0] at h
theorem eqvs_refl0 : ∀ ds : List D, PyData.canLayAll0 ds = true → PyData.eqvAll ds ds = true
  | [], _ => by rw [PyData.eqvAll]
  | x :: xs, h => by
    simp only [PyData.canLayAll0, Bool.and_eq_true] at h
    rw [PyData.eqvAll, eqv_refl0 x h.1, eqvs_refl0 xs h.2]
    rfl
end
theorem eqv_int (i j : Int) : PyData.eqv (.int i) (.int j) = decide (i = j) := by rw [PyData.eqv, Bool.beq_eq_decide_eq]
theorem eqv_str (i j : Str) : PyData.eqv (.str i) (.str j) = decide (i = j) := by rw [PyData.eqv, Bool.beq_eq_decide_eq]
theorem eqv_self {x : D} (h : Shp x) : PyData.eqv x x = true := eqv_refl0 x (SeqAt.canLay_of_shaped h)
/-! ### loops -/
theorem brP_mono {x : Bool} {a b a' b' : Prop} (h : a → a') (h' : b → b') (q : brP x a b) : brP x a' b' := ⟨fun z => h (q.1 z), fun z => h' (q.2 z)⟩
/-- a comprehension without a test, each turn of which gives one item -/
theorem loopC_map {tg : EV → En → (En → Prop) → Prop} {e : En → Sto → KE → Prop} {env : En} {st : Sto} (f : D → D) {k : List D → Sto → Prop} : ∀ (xs acc : List D),
    (∀ x ∈ xs, ∀ k' : EV → Sto → Prop, k' (.d (f x)) st → tg (.d x) env fun env' => e env' st k') → k (acc ++ xs.map f) st → loopC tg (fun _ st k => k true st) e env xs st acc k
  | [], acc, _, q => by
    rw [List.map_nil, List.append_nil] at q
    exact q
  | x :: xs, acc, h, q => by
    have h1 := h x List.mem_cons_self (fun ev st2 => dE ev fun y => loopC tg (fun _ st k => k true st) e env xs st2 (acc ++ [y]) k)
      (loopC_map f xs (acc ++ [f x]) (fun y hy => h y (List.mem_cons_of_mem _ hy)) (by rw [List.append_assoc]; exact q))
    exact (show tg (.d x) env fun env' => brP true (e env' st fun ev st2 => dE ev fun y => loopC tg (fun _ st k => k true st) e env xs st2 (acc ++ [y]) k) _ from by
      simp only [show ∀ a b : Prop, brP true a b = a from fun a b => propext ⟨brT', brT⟩]
      exact h1)
theorem loopC_inv {tb : Tb} (ht : tb.Mono) {t c e : IE} {env : En} {k : List D → Sto → Prop} (P : Nat → Sto → List D → Prop) {xs : List D}
    (step : ∀ i x st acc, xs[i]? = some x → P i st acc → (sem tb t).a (.d x) env fun env' => (sem tb c).t env' st fun b st1 => brP b ((sem tb e).e env' st1 fun ev st2 => dE ev fun y => P (i + 1) st2 (acc ++ [y])) (P (i + 1) st1 acc))
    (done : ∀ st acc, P xs.length st acc → k acc st) : ∀ {st : Sto} {acc : List D}, P 0 st acc → loopC (sem tb t).a (sem tb c).t (sem tb e).e env xs st acc k := by
  have go : ∀ (ys : List D) (i : Nat) (st : Sto) (acc : List D), xs.drop i = ys → i ≤ xs.length → P i st acc → loopC (sem tb t).a (sem tb c).t (sem tb e).e env ys st acc k := by
    intro ys
    induction ys with
    | nil =>
      intro i st acc hd hi hp
      have : i = xs.length := by
        have := congrArg List.length hd
        rw [List.length_drop] at this
        simp at this
        omega
      subst this
      exact done st acc hp
    | cons y ys ih =>
      intro i st acc hd hi hp
      have hlt : i < xs.length := by
        have := congrArg List.length hd
        rw [List.length_drop] at this
        simp at this
        omega
      have hx : xs[i]? = some y := by
        have := congrArg (fun l => l[0]?) hd
        simp only [List.getElem?_drop] at this
        simpa using this
      have hd' : xs.drop (i + 1) = ys := by
        have := congrArg List.tail hd
        simpa using this
      refine (sem_mono ht t).a _ _ _ _ (fun env' q => (sem_mono ht c).t _ _ _ _ (fun b st1 q => brP_mono (fun q => (sem_mono ht e).e _ _ _ _ (fun ev st2 q => ?_) q) (fun q => ?_) q) q) (step i y st acc hx hp)
      · unfold dE at q ⊢
        split at q
        · exact ih (i + 1) _ _ hd' hlt q
        · exact q.elim
      · exact ih (i + 1) _ _ hd' hlt q
  intro st acc hp
  exact go xs 0 st acc rfl (Nat.zero_le _) hp
theorem loopF_inv {tb : Tb} (ht : tb.Mono) {t : IE} {b : IS} {K : KS} (P : Nat → En → Sto → Prop) {xs : List D}
    (step : ∀ i x env st, xs[i]? = some x → P i env st → (sem tb t).a (.d x) env fun env' => semS tb b env' st { nx := P (i + 1), rt := K.rt, bk := K.nx, ct := P (i + 1) })
    (done : ∀ env st, P xs.length env st → K.nx env st) : ∀ {env : En} {st : Sto}, P 0 env st → loopF (sem tb t).a (semS tb b) xs env st K := by
  have go : ∀ (ys : List D) (i : Nat) (env : En) (st : Sto), xs.drop i = ys → i ≤ xs.length → P i env st → loopF (sem tb t).a (semS tb b) ys env st K := by
    intro ys
    induction ys with
    | nil =>
      intro i env st hd hi hp
      have : i = xs.length := by
        have := congrArg List.length hd
        rw [List.length_drop] at this
        simp at this
        omega
      subst this
      exact done env st hp
    | cons y ys ih =>
      intro i env st hd hi hp
      have hlt : i < xs.length := by
        have := congrArg List.length hd
        rw [List.length_drop] at this
        simp at this
        omega
      have hx : xs[i]? = some y := by
        have := congrArg (fun l => l[0]?) hd
        simp only [List.getElem?_drop] at this
        simpa using this
      have hd' : xs.drop (i + 1) = ys := by
        have := congrArg List.tail hd
        simpa using this
      refine (sem_mono ht t).a _ _ _ _ (fun env' q => semS_mono ht b _ _ { nx := P (i + 1), rt := K.rt, bk := K.nx, ct := P (i + 1) } _ ⟨fun e s q => ih (i + 1) e s hd' hlt q, fun _ _ z => z, fun _ _ z => z, fun e s q => ih (i + 1) e s hd' hlt q⟩ q) (step i y env st hx hp)
  intro env st hp
  exact go xs 0 env st rfl (Nat.zero_le _) hp
theorem cut_len {α : Type} (xs : List α) (lo hi : Option Int) : (cutD xs lo hi).length ≤ xs.length := by
  unfold cutD
  rw [List.length_take, List.length_drop]
  omega
theorem cut_map {α β : Type} (f : α → β) (xs : List α) (lo hi : Option Int) : cutD (xs.map f) lo hi = (cutD xs lo hi).map f := by
  unfold cutD
  rw [List.length_map, List.map_take, List.map_drop]
theorem cut_le (n : Nat) {α : Type} (xs : List α) : (cutD xs none (some (n : Int))).length ≤ n := by
  unfold cutD
  rw [List.length_take, List.length_drop]
  simp only [HT.sIx]
  split <;> omega
end VI

/-! PL3: nearest integers, sums of fractions. -/
namespace VI
open PySem
def ways5 : List Str := ["even", "away", "up", "down", "zero"]
theorem fdiv_parts {n d : Int} (hd : 0 < d) : ∃ q r : Int, n.fdiv d = q ∧ n = q * d + r ∧ 0 ≤ r ∧ r < d := by
  refine ⟨n.fdiv d, n - n.fdiv d * d, rfl, by omega, ?_, ?_⟩
  · rw [Int.fdiv_eq_ediv_of_nonneg _ (by omega)]
    have := Int.ediv_mul_le n (b := d) (by omega)
    omega
  · rw [Int.fdiv_eq_ediv_of_nonneg _ (by omega)]
    have := Int.lt_ediv_add_one_mul_self n hd
    rw [Int.add_mul] at this
    omega
theorem fdiv_of {n d q r : Int} (hd : 0 < d) (e : n = q * d + r) (h0 : 0 ≤ r) (h1 : r < d) : n.fdiv d = q := by
  rw [Int.fdiv_eq_ediv_of_nonneg _ (by omega)]
  rw [e, Int.add_comm, Int.add_mul_ediv_right _ _ (by omega), Int.ediv_eq_zero_of_lt h0 h1]
  omega
def addP (p q : P2) : P2 := nrm (p.1 * q.2 + q.1 * p.2) (p.2 * q.2)
/-- a fraction of so many bits -/
structure Fra (k : Nat) (p : P2) : Prop where
  can : Can p
  b1 : Bd k p.1
  b2 : Bd k p.2
theorem Fra.up {k l : Nat} {p : P2} (h : Fra k p) (e : k ≤ l) : Fra l p := ⟨h.can, h.b1.up e, h.b2.up e⟩
theorem Fra.ne {k : Nat} {p : P2} (h : Fra k p) : p.2 ≠ 0 := by have := h.can.pos; omega
theorem Fra.nrm {k : Nat} {n d : Int} (h0 : d ≠ 0) (h1 : Bd k n) (h2 : Bd k d) : Fra k (nrm n d) := ⟨nrm_can h0, h1.nrm1, h2.nrm2⟩
theorem mul_ne {a b : Int} (h : a ≠ 0) (h' : b ≠ 0) : a * b ≠ 0 := Int.mul_ne_zero h h'
theorem Fra.add {k l : Nat} {p q : P2} (h : Fra k p) (h' : Fra l q) : Fra (k + l + 1) (addP p q) :=
  Fra.nrm (mul_ne h.ne h'.ne) (((h.b1.mul h'.b2).add (h'.b1.mul h.b2)).up (by omega)) ((h.b2.mul h'.b2).up (by omega))
/-- a sum, from (0, 1) on -/
def totP (l : List P2) : P2 := l.foldl addP (0, 1)
/-! ### the worth -/
def wo (p : P2) : Rat := (p.1 : Rat) / (p.2 : Rat)
theorem wo_eq {p q : P2} (hp : Can p) (hq : Can q) (e : wo p = wo q) : p = q := by
  refine can_uniq hp hq ?_
  have h1 : (p.2 : Rat) ≠ 0 := fun h => by
    have := hp.pos
    have h' : p.2 = 0 := by exact_mod_cast h
    omega
  have h2 : (q.2 : Rat) ≠ 0 := fun h => by
    have := hq.pos
    have h' : q.2 = 0 := by exact_mod_cast h
    omega
  unfold wo at e
  have : (p.1 : Rat) * q.2 = q.1 * p.2 := by grind
  exact_mod_cast this
theorem wo_nrm {n d : Int} (hd : d ≠ 0) : wo (nrm n d) = (n : Rat) / (d : Rat) := by
  have h := nrm_eq (n := n) hd
  have h1 : ((nrm n d).2 : Rat) ≠ 0 := fun h => by
    have := (nrm_can (n := n) hd).pos
    have h' : (nrm n d).2 = 0 := by exact_mod_cast h
    omega
  have h2 : (d : Rat) ≠ 0 := fun h => hd (by exact_mod_cast h)
  have h3 : ((nrm n d).1 : Rat) * d = n * (nrm n d).2 := by exact_mod_cast h
  unfold wo
  grind
theorem wo_add {p q : P2} (hp : Can p) (hq : Can q) : wo (addP p q) = wo p + wo q := by
  have a := hp.pos
  have b := hq.pos
  unfold addP
  rw [wo_nrm (mul_ne (by omega) (by omega))]
  have h1 : (p.2 : Rat) ≠ 0 := fun h => by
    have h' : p.2 = 0 := by exact_mod_cast h
    omega
  have h2 : (q.2 : Rat) ≠ 0 := fun h => by
    have h' : q.2 = 0 := by exact_mod_cast h
    omega
  unfold wo
  push_cast
  grind
def subP (p q : P2) : P2 := nrm (p.1 * q.2 - q.1 * p.2) (p.2 * q.2)
def mulP (p q : P2) : P2 := nrm (p.1 * q.1) (p.2 * q.2)
theorem nrm_ne {n d : Int} (h : d ≠ 0) : (nrm n d).2 ≠ 0 := by have := (nrm_can (n := n) h).pos; omega
theorem rat_ne {d : Int} (h : d ≠ 0) : (d : Rat) ≠ 0 := fun e => h (by exact_mod_cast e)
theorem wo_sub {p q : P2} (hp : Can p) (hq : Can q) : wo (subP p q) = wo p - wo q := by
  have a := hp.pos
  have b := hq.pos
  unfold subP
  rw [wo_nrm (mul_ne (by omega) (by omega))]
  have h1 := rat_ne (show p.2 ≠ 0 by omega)
  have h2 := rat_ne (show q.2 ≠ 0 by omega)
  unfold wo
  push_cast
  grind
theorem wo_mul {p q : P2} (hp : Can p) (hq : Can q) : wo (mulP p q) = wo p * wo q := by
  have a := hp.pos
  have b := hq.pos
  unfold mulP
  rw [wo_nrm (mul_ne (by omega) (by omega))]
  have h1 := rat_ne (show p.2 ≠ 0 by omega)
  have h2 := rat_ne (show q.2 ≠ 0 by omega)
  unfold wo
  push_cast
  grind
theorem wo_ne {q : P2} (hq : Can q) (h0 : q.1 ≠ 0) : wo q ≠ 0 := by
  have b := hq.pos
  have h2 := rat_ne (show q.2 ≠ 0 by omega)
  have h3 := rat_ne h0
  unfold wo
  grind
theorem can_add {p q : P2} (hp : Can p) (hq : Can q) : Can (addP p q) := nrm_can (mul_ne (by have := hp.pos; omega) (by have := hq.pos; omega))
theorem can_sub {p q : P2} (hp : Can p) (hq : Can q) : Can (subP p q) := nrm_can (mul_ne (by have := hp.pos; omega) (by have := hq.pos; omega))
theorem can_mul {p q : P2} (hp : Can p) (hq : Can q) : Can (mulP p q) := nrm_can (mul_ne (by have := hp.pos; omega) (by have := hq.pos; omega))
theorem wo01 : wo (0, 1) = 0 := by
  unfold wo
  simp
  grind
theorem can01 : Can (0, 1) := ⟨by decide, by decide⟩
theorem nrm_inv {x : Int} (hx : 0 < x) : nrm 1 x = (1, x) := nrm_of ⟨hx, Int.gcd_one_left ..⟩ (by omega) (by simp)
theorem Fit.pair {k l : Nat} {a b : Int} (h : Bd k a) (h' : Bd l b) (e : k ≤ 14000) (e' : l ≤ 14000) : Fit 2 9000 (.tuple [.int a, .int b]) :=
  (Fit.tup (all_cons (Fit.bd h e) (all_cons (Fit.bd h' e') all_nil))).up (by omega) (by simp)
theorem Fit.nrm {k l : Nat} {a b : Int} (h : Bd k a) (h' : Bd l b) (e : k ≤ 14000) (e' : l ≤ 14000) : Fit 2 9000 (dF (nrm a b)) := Fit.pair h.nrm1 h'.nrm2 e e'
theorem Fit.one {k : Nat} {a : Int} (h : Bd k a) (e : k ≤ 14000) : Fit 2 9000 (.int a) := (Fit.bd h e).up (by omega) (by omega)
theorem Fit.cmp {a b : Prop} [Decidable a] [Decidable b] : Fit 2 9000 (.int ((if a then 1 else 0) - (if b then 1 else 0))) :=
  Fit.one (k := 2) (by unfold Bd; split <;> split <;> decide) (by omega)
end VI

/-! PL4: formats, values, ranks. -/
namespace VI
open PySem
structure Fm where
  b : Int
  p : Int
  lo : Int
  hi : Int
def fmD (f : Fm) : D := .tuple [.int f.b, .int f.p, .int f.lo, .int f.hi]
structure FmOk (f : Fm) : Prop where
  b2 : 2 ≤ f.b
  b36 : f.b ≤ 36
  p2 : 2 ≤ f.p
  p120 : f.p ≤ 120
  lh : f.lo ≤ f.hi
  l : -1300 ≤ f.lo
  h : f.hi ≤ 1300
  bp : Bd 640 (f.b ^ f.p.toNat)
  bl : Bd 2400 (f.b ^ f.lo.natAbs)
  bh : Bd 2400 (f.b ^ f.hi.natAbs)
/-- values -/
inductive Vl where
  | num (s c e : Int)
  | inf (s : Int)
  | nan
def vlD : Vl → D
  | .num s c e => .tuple [.str "num", .int s, .int c, .int e]
  | .inf s => .tuple [.str "inf", .int s]
  | .nan => .tuple [.str "nan"]
structure NumOk (f : Fm) (s c e : Int) : Prop where
  s : s = 0 ∨ s = 1
  e1 : f.lo ≤ e
  e2 : e ≤ f.hi
  c0 : 0 ≤ c
  c1 : c < f.b ^ f.p.toNat
  c2 : e = f.lo ∨ f.b ^ (f.p - 1).toNat ≤ c
def VlOk (f : Fm) : Vl → Prop
  | .num s c e => NumOk f s c e
  | .inf s => s = 0 ∨ s = 1
  | .nan => True
/-! ### ranks -/
def Fm.F (f : Fm) : Int := f.b ^ (f.p - 1).toNat
def Fm.T (f : Fm) : Int := f.b ^ f.p.toNat
def Fm.W (f : Fm) : Int := (f.b - 1) * f.F
def Fm.X (f : Fm) : Int := (f.hi - f.lo) * f.W + f.T
theorem FmOk.T_eq {f : Fm} (h : FmOk f) : f.T = f.b * f.F := by
  unfold Fm.T Fm.F
  have : f.p.toNat = (f.p - 1).toNat + 1 := by have := h.p2; omega
  rw [this, Int.pow_succ, Int.mul_comm]
theorem FmOk.TF {f : Fm} (h : FmOk f) : f.T = f.F + f.W := by
  rw [h.T_eq]
  unfold Fm.W
  grind
theorem FmOk.F_pos {f : Fm} (h : FmOk f) : 1 ≤ f.F := by
  have : 0 < f.F := Int.pow_pos (by have := h.b2; omega)
  omega
theorem FmOk.W_pos {f : Fm} (h : FmOk f) : 1 ≤ f.W := by
  unfold Fm.W
  have h1 := h.F_pos
  have h2 := h.b2
  have : 0 < (f.b - 1) * f.F := Int.mul_pos (by omega) (by omega)
  omega
theorem FmOk.bdT {f : Fm} (h : FmOk f) : Bd 640 f.T := h.bp
/-- the value with the rank r -/
def atV (f : Fm) (r : Int) : Option Vl :=
  if (r.natAbs : Int) < f.F then some (.num (if r < 0 then 1 else 0) r.natAbs f.lo)
  else if f.lo + (r.natAbs - f.F).fdiv f.W ≤ f.hi then some (.num (if r < 0 then 1 else 0) (r.natAbs - (r.natAbs - f.F).fdiv f.W * f.W) (f.lo + (r.natAbs - f.F).fdiv f.W))
  else if (r.natAbs : Int) = f.X then some (.inf (if r < 0 then 1 else 0)) else none
/-- the steps behind the lead -/
theorem FmOk.steps {f : Fm} (h : FmOk f) {m : Int} (h1 : f.F ≤ m) : ∃ q r : Int, (m - f.F).fdiv f.W = q ∧ m - f.F = q * f.W + r ∧ 0 ≤ r ∧ r < f.W ∧ 0 ≤ q := by
  obtain ⟨q, r, a, b, c, d⟩ := fdiv_parts (n := m - f.F) (d := f.W) (by have := h.W_pos; omega)
  refine ⟨q, r, a, b, c, d, ?_⟩
  have hw := h.W_pos
  apply Int.not_lt.mp
  intro hq
  have : q * f.W ≤ -1 * f.W := Int.mul_le_mul_of_nonneg_right (by omega) (by omega)
  omega
/-- beyond the greatest -/
theorem FmOk.over {f : Fm} (h : FmOk f) {m q r : Int} (e : m - f.F = q * f.W + r) (h0 : 0 ≤ r) (h1 : r < f.W) : f.lo + q ≤ f.hi ↔ m < f.X := by
  have hw := h.W_pos
  have ht := h.TF
  unfold Fm.X
  constructor
  · intro hq
    have : q * f.W ≤ (f.hi - f.lo) * f.W := Int.mul_le_mul_of_nonneg_right (by omega) (by omega)
    omega
  · intro hm
    apply Int.not_lt.mp
    intro hq
    have : (f.hi - f.lo + 1) * f.W ≤ q * f.W := Int.mul_le_mul_of_nonneg_right (by omega) (by omega)
    rw [Int.add_mul] at this
    omega
def rkV (f : Fm) : Vl → Int
  | .num s c e => if s = 1 then -((e - f.lo) * f.W + c) else (e - f.lo) * f.W + c
  | .inf s => if s = 1 then -f.X else f.X
  | .nan => 0
def notNan : Vl → Prop
  | .nan => False
  | _ => True
/-- what the powers ask -/
theorem FmOk.pw {f : Fm} (h : FmOk f) : (∃ k, Bd k f.b ∧ 0 ≤ f.p ∧ k * (4 * f.p.toNat + 4) ≤ 900000) ∧ (∃ k, Bd k f.b ∧ 0 ≤ f.p - 1 ∧ k * (4 * (f.p - 1).toNat + 4) ≤ 900000) := by
  have h1 := h.b2
  have h2 := h.b36
  have h3 := h.p2
  have h4 := h.p120
  have hb : Bd 6 f.b := by unfold Bd; omega
  exact ⟨⟨6, hb, by omega, by omega⟩, ⟨6, hb, by omega, by omega⟩⟩
def sgn (r : Int) : Int := if r < 0 then 1 else 0
theorem atV_lo {f : Fm} {r : Int} (h : (r.natAbs : Int) < f.F) : atV f r = some (.num (sgn r) r.natAbs f.lo) := if_pos h
theorem atV_mid {f : Fm} {r : Int} (h : f.F ≤ (r.natAbs : Int)) (h2 : f.lo + (r.natAbs - f.F).fdiv f.W ≤ f.hi) : atV f r = some (.num (sgn r) (r.natAbs - (r.natAbs - f.F).fdiv f.W * f.W) (f.lo + (r.natAbs - f.F).fdiv f.W)) :=
  (if_neg (by omega)).trans (if_pos h2)
theorem atV_inf {f : Fm} {r : Int} (h : f.F ≤ (r.natAbs : Int)) (h2 : ¬ f.lo + (r.natAbs - f.F).fdiv f.W ≤ f.hi) (h3 : (r.natAbs : Int) = f.X) : atV f r = some (.inf (sgn r)) :=
  (if_neg (by omega)).trans ((if_neg h2).trans (if_pos h3))
theorem atV_none {f : Fm} {r : Int} (h : f.F ≤ (r.natAbs : Int)) (h2 : ¬ f.lo + (r.natAbs - f.F).fdiv f.W ≤ f.hi) (h3 : (r.natAbs : Int) ≠ f.X) : atV f r = none :=
  (if_neg (by omega)).trans ((if_neg h2).trans (if_neg h3))
theorem FmOk.XF {f : Fm} (hf : FmOk f) : f.T ≤ f.X := by
  unfold Fm.X
  have := Int.mul_nonneg (show 0 ≤ f.hi - f.lo by have := hf.lh; omega) (show 0 ≤ f.W by have := hf.W_pos; omega)
  omega
/-- by the greatest rank -/
theorem atV_most {f : Fm} (hf : FmOk f) {r : Int} (h : f.X ≤ (r.natAbs : Int)) : atV f r = if (r.natAbs : Int) = f.X then some (.inf (sgn r)) else none := by
  have h1 := hf.XF
  have h2 := hf.TF
  have h3 := hf.W_pos
  have hF : f.F ≤ (r.natAbs : Int) := by omega
  obtain ⟨q, z, a, b, c, d, _⟩ := hf.steps hF
  have ho := hf.over b c d
  have hn : ¬ f.lo + ((r.natAbs : Int) - f.F).fdiv f.W ≤ f.hi := by
    rw [a, ho]
    omega
  by_cases e : (r.natAbs : Int) = f.X
  · rw [if_pos e]
    exact atV_inf hF hn e
  · rw [if_neg e]
    exact atV_none hF hn e
theorem FmOk.F2 {f : Fm} (hf : FmOk f) : 2 ≤ f.F := by
  unfold Fm.F
  have e : (f.p - 1).toNat = (f.p - 2).toNat + 1 := by have := hf.p2; omega
  have hb := hf.b2
  have h0 : 0 < f.b ^ (f.p - 2).toNat := Int.pow_pos (by omega)
  rw [e, Int.pow_succ]
  have := Int.mul_le_mul (show (1 : Int) ≤ f.b ^ (f.p - 2).toNat by omega) hb (by omega) (by omega)
  omega
end VI

/-! PL5: worths of numbers, their order by ranks, next ones. -/
namespace VI
open PySem
def powP (b e : Int) : P2 := if 0 ≤ e then (b ^ e.toNat, 1) else (1, b ^ (-e).toNat)
def wv (b s c e : Int) : P2 := if s = 1 then (-(mulP (c, 1) (powP b e)).1, (mulP (c, 1) (powP b e)).2) else mulP (c, 1) (powP b e)
def bp (b e : Int) : Rat := wo (powP b e)
theorem powI_pos {b : Int} (hb : 2 ≤ b) (n : Nat) : 0 < b ^ n := Int.pow_pos (by omega)
theorem powP_can {b : Int} (hb : 2 ≤ b) (e : Int) : Can (powP b e) := by
  unfold powP
  split
  · exact ⟨by show (0 : Int) < 1; decide, Int.gcd_one_right ..⟩
  · exact ⟨powI_pos hb _, Int.gcd_one_left ..⟩
theorem can_int (c : Int) : Can (c, 1) := ⟨by show (0 : Int) < 1; decide, Int.gcd_one_right ..⟩
theorem wo_int (c : Int) : wo (c, 1) = (c : Rat) := by
  unfold wo
  show (c : Rat) / ((1 : Int) : Rat) = c
  have : ((1 : Int) : Rat) = 1 := rfl
  rw [this]
  grind
theorem can_neg {p : P2} (h : Can p) : Can (-p.1, p.2) := ⟨h.pos, by show Int.gcd (-p.1) p.2 = 1; rw [Int.neg_gcd]; exact h.cop⟩
theorem wo_neg (p : P2) : wo (-p.1, p.2) = -wo p := by
  unfold wo
  show ((-p.1 : Int) : Rat) / (p.2 : Rat) = -((p.1 : Rat) / (p.2 : Rat))
  rw [Rat.div_def, Rat.div_def]
  push_cast
  rw [Rat.neg_mul]
theorem wv_can {b : Int} (hb : 2 ≤ b) (s c e : Int) : Can (wv b s c e) := by
  unfold wv
  split
  · exact can_neg (can_mul (can_int c) (powP_can hb e))
  · exact can_mul (can_int c) (powP_can hb e)
def sg (s : Int) : Int := if s = 1 then -1 else 1
theorem wo_wv {b : Int} (hb : 2 ≤ b) (s c e : Int) : wo (wv b s c e) = ((sg s * c : Int) : Rat) * bp b e := by
  unfold wv sg
  split
  · rw [wo_neg, wo_mul (can_int c) (powP_can hb e), wo_int]
    unfold bp
    push_cast
    grind
  · rw [wo_mul (can_int c) (powP_can hb e), wo_int]
    unfold bp
    push_cast
    grind
theorem bp_pos {b : Int} (hb : 2 ≤ b) (e : Int) : 0 < bp b e := by
  have h := powP_can hb e
  have h1 : 0 < (powP b e).1 := by
    unfold powP
    split
    · exact powI_pos hb _
    · show (0 : Int) < 1
      decide
  have h2 := h.pos
  unfold bp wo
  rw [Rat.div_def]
  exact Rat.mul_pos (by exact_mod_cast h1) (Rat.inv_pos.mpr (by exact_mod_cast h2))
theorem bp_nat (b : Int) (n : Nat) : bp b n = ((b ^ n : Int) : Rat) := by
  unfold bp powP
  rw [if_pos (by omega), wo_int, Int.toNat_natCast]
theorem bp_negn (b : Int) (n : Nat) : bp b (-(n : Int)) = (((b ^ n : Int) : Rat))⁻¹ := by
  unfold bp powP
  split
  · have : n = 0 := by omega
    subst this
    rw [wo_int]
    simp
    grind
  · unfold wo
    rw [Rat.div_def]
    simp
theorem bp_one {b : Int} (hb : 2 ≤ b) (e : Int) : bp b (e + 1) = (b : Rat) * bp b e := by
  have hb0 : (b : Rat) ≠ 0 := by
    intro h
    have : b = 0 := by exact_mod_cast h
    omega
  rcases Int.le_total 0 e with h | h
  · obtain ⟨n, rfl⟩ := Int.eq_ofNat_of_zero_le h
    rw [show (n : Int) + 1 = ((n + 1 : Nat) : Int) by omega, bp_nat, bp_nat, Int.pow_succ]
    push_cast
    grind
  · obtain ⟨n, rfl⟩ : ∃ n : Nat, e = -(n : Int) := ⟨(-e).toNat, by omega⟩
    cases n with
    | zero =>
      rw [show -((0 : Nat) : Int) + 1 = ((1 : Nat) : Int) by omega, show -((0 : Nat) : Int) = ((0 : Nat) : Int) by omega, bp_nat, bp_nat]
      simp
    | succ n =>
      rw [show -((n + 1 : Nat) : Int) + 1 = -(n : Int) by omega, bp_negn, bp_negn, Int.pow_succ]
      have h2 : ((b ^ n : Int) : Rat) ≠ 0 := by
        intro h
        have h' : b ^ n = 0 := by exact_mod_cast h
        have := powI_pos hb n
        omega
      push_cast at h2 ⊢
      grind
theorem bp_up {b : Int} (hb : 2 ≤ b) (e : Int) (n : Nat) : bp b (e + n) = ((b ^ n : Int) : Rat) * bp b e := by
  induction n with
  | zero => simp
  | succ n ih =>
    rw [show e + ((n + 1 : Nat) : Int) = (e + n) + 1 by omega, bp_one hb, ih, Int.pow_succ]
    push_cast
    grind
/-- one is below the other -/
theorem below_iff {p q : P2} (hp : Can p) (hq : Can q) : p.1 * q.2 < q.1 * p.2 ↔ wo p < wo q := by
  have a : (0 : Rat) < p.2 := by exact_mod_cast hp.pos
  have b : (0 : Rat) < q.2 := by exact_mod_cast hq.pos
  have e : wo q * (p.2 : Rat) = ((q.1 : Rat) * p.2) / q.2 := by
    unfold wo
    rw [Rat.div_def, Rat.div_def]
    grind
  unfold wo at e ⊢
  rw [Rat.div_lt_iff a, e, Rat.lt_div_iff b]
  constructor
  · intro h
    exact_mod_cast h
  · intro h
    exact_mod_cast h
/-! ### the same format -/
/-- worth over the least unit -/
def Fm.S (f : Fm) (c e : Int) : Int := c * f.b ^ (e - f.lo).toNat
def Fm.M (f : Fm) (c e : Int) : Int := (e - f.lo) * f.W + c
theorem wo_S {f : Fm} (hf : FmOk f) {s c e : Int} (h : NumOk f s c e) : wo (wv f.b s c e) = ((sg s * f.S c e : Int) : Rat) * bp f.b f.lo := by
  have h1 := h.e1
  rw [wo_wv hf.b2]
  obtain ⟨n, rfl⟩ : ∃ n : Nat, e = f.lo + n := ⟨(e - f.lo).toNat, by omega⟩
  rw [bp_up hf.b2]
  unfold Fm.S
  rw [show (f.lo + (n : Int) - f.lo).toNat = n by omega]
  push_cast
  grind
/-- by places: the exponent first -/
theorem M_lt {f : Fm} (hf : FmOk f) {s c e s' c' e' : Int} (h : NumOk f s c e) (h' : NumOk f s' c' e') : (e < e' → f.M c e < f.M c' e') ∧ (e = e' → (f.M c e < f.M c' e' ↔ c < c')) := by
  unfold Fm.M
  refine ⟨fun he => ?_, fun he => by subst he; omega⟩
  have hw := hf.W_pos
  have tf := hf.TF
  have h1 := h.c1
  have h2 := h'.c2
  have h3 := h.e1
  have : (e - f.lo + 1) * f.W ≤ (e' - f.lo) * f.W := Int.mul_le_mul_of_nonneg_right (by omega) (by omega)
  rw [Int.add_mul] at this
  have hc' : f.F ≤ c' := by rcases h2 with h2 | h2; omega; exact h2
  have hc : c < f.T := h1
  omega
theorem S_lt {f : Fm} (hf : FmOk f) {s c e s' c' e' : Int} (h : NumOk f s c e) (h' : NumOk f s' c' e') : (e < e' → f.S c e < f.S c' e') ∧ (e = e' → (f.S c e < f.S c' e' ↔ c < c')) := by
  unfold Fm.S
  refine ⟨fun he => ?_, fun he => ?_⟩
  · have h1 := h.c1
    have h2 := h'.c2
    have h3 := h.e1
    have hc' : f.F ≤ c' := by rcases h2 with h2 | h2; omega; exact h2
    have hc : c < f.T := h1
    obtain ⟨n, hn⟩ : ∃ n : Nat, (e - f.lo).toNat = n := ⟨_, rfl⟩
    obtain ⟨m, hm⟩ : ∃ m : Nat, (e' - f.lo).toNat = n + 1 + m := ⟨(e' - e - 1).toNat, by omega⟩
    rw [hn, hm]
    have p1 := powI_pos hf.b2 n
    have p2 := powI_pos hf.b2 m
    have t := hf.T_eq
    have f0 := hf.F_pos
    have a1 : c * f.b ^ n < f.T * f.b ^ n := Int.mul_lt_mul_of_pos_right hc p1
    have a2 : f.F * f.b ^ (n + 1) ≤ f.F * f.b ^ (n + 1 + m) := by
      refine Int.mul_le_mul_of_nonneg_left ?_ (by omega)
      have e : f.b ^ (n + 1 + m) = f.b ^ (n + 1) * f.b ^ m := Int.pow_add ..
      have := Int.mul_le_mul_of_nonneg_left (show (1 : Int) ≤ f.b ^ m by omega) (show (0 : Int) ≤ f.b ^ (n + 1) by have := powI_pos hf.b2 (n + 1); omega)
      rw [e]
      exact Int.le_trans (Int.le_of_eq (Int.mul_one _).symm) this
    have a3 : f.F * f.b ^ (n + 1 + m) ≤ c' * f.b ^ (n + 1 + m) := Int.mul_le_mul_of_nonneg_right hc' (by have := powI_pos hf.b2 (n + 1 + m); omega)
    have a4 : f.T * f.b ^ n = f.F * f.b ^ (n + 1) := by rw [t, Int.pow_succ]; grind
    exact Int.lt_of_lt_of_le a1 (a4 ▸ Int.le_trans a2 a3)
  · subst he
    have p1 := powI_pos hf.b2 (e - f.lo).toNat
    constructor
    · intro q
      exact Int.lt_of_mul_lt_mul_right q (by omega)
    · intro q
      exact Int.mul_lt_mul_of_pos_right q p1
theorem SM_lt {f : Fm} (hf : FmOk f) {s c e s' c' e' : Int} (h : NumOk f s c e) (h' : NumOk f s' c' e') : f.S c e < f.S c' e' ↔ f.M c e < f.M c' e' := by
  have a := M_lt hf h h'
  have b := S_lt hf h h'
  have a' := M_lt hf h' h
  have b' := S_lt hf h' h
  rcases Int.lt_trichotomy e e' with q | q | q
  · have := a.1 q
    have := b.1 q
    omega
  · rw [(a.2 q), (b.2 q)]
  · have := a'.1 q
    have := b'.1 q
    omega
theorem M_nn {f : Fm} (hf : FmOk f) {s c e : Int} (h : NumOk f s c e) : 0 ≤ f.M c e := by
  unfold Fm.M
  have := Int.mul_nonneg (show 0 ≤ e - f.lo by have := h.e1; omega) (show 0 ≤ f.W by have := hf.W_pos; omega)
  have := h.c0
  omega
theorem S_nn {f : Fm} (hf : FmOk f) {s c e : Int} (h : NumOk f s c e) : 0 ≤ f.S c e := Int.mul_nonneg h.c0 (by have := powI_pos hf.b2 (e - f.lo).toNat; omega)
theorem zeroOk {f : Fm} (hf : FmOk f) : NumOk f 0 0 f.lo := ⟨.inl rfl, Int.le_refl _, hf.lh, Int.le_refl _, by have := powI_pos hf.b2 f.p.toNat; omega, .inl rfl⟩
theorem S_z {f : Fm} (hf : FmOk f) {s c e : Int} (h : NumOk f s c e) : 0 < f.S c e ↔ 0 < f.M c e := by
  have := SM_lt hf (zeroOk hf) h
  have e1 : f.S 0 f.lo = 0 := Int.zero_mul _
  have e2 : f.M 0 f.lo = 0 := by unfold Fm.M; simp
  rw [e1, e2] at this
  exact this
theorem rk_num {f : Fm} {s c e : Int} (hs : s = 0 ∨ s = 1) : rkV f (.num s c e) = sg s * f.M c e := by
  unfold rkV sg Fm.M
  rcases hs with rfl | rfl <;> simp
/-- ranks grow as worths do -/
theorem wo_rank {f : Fm} (hf : FmOk f) {s c e s' c' e' : Int} (h : NumOk f s c e) (h' : NumOk f s' c' e') : wo (wv f.b s c e) < wo (wv f.b s' c' e') ↔ rkV f (.num s c e) < rkV f (.num s' c' e') := by
  rw [wo_S hf h, wo_S hf h', rk_num h.s, rk_num h'.s, Rat.mul_lt_mul_right (bp_pos hf.b2 f.lo)]
  have key : ((sg s * f.S c e : Int) : Rat) < ((sg s' * f.S c' e' : Int) : Rat) ↔ sg s * f.S c e < sg s' * f.S c' e' := by
    constructor
    · intro q
      exact_mod_cast q
    · intro q
      exact_mod_cast q
  rw [key]
  have a := SM_lt hf h h'
  have a' := SM_lt hf h' h
  have n := S_nn hf h
  have n' := S_nn hf h'
  have m := M_nn hf h
  have m' := M_nn hf h'
  have z := S_z hf h
  have z' := S_z hf h'
  rcases h.s with rfl | rfl <;> rcases h'.s with rfl | rfl <;> simp only [sg, if_pos, if_true] <;> simp <;> omega
theorem M_top {f : Fm} (hf : FmOk f) {s c e : Int} (h : NumOk f s c e) : f.M c e < f.X := by
  unfold Fm.M Fm.X
  have h1 : c < f.T := h.c1
  have := Int.mul_le_mul_of_nonneg_right (show e - f.lo ≤ f.hi - f.lo by have := h.e2; omega) (show 0 ≤ f.W by have := hf.W_pos; omega)
  omega
/-! ### the next ones, the order -/
/-- the value with the rank of a value -/
theorem atV_rk {f : Fm} (hf : FmOk f) {v : Vl} (h : VlOk f v) (hn : notNan v) : atV f (rkV f v) = some (if rkV f v = 0 then .num 0 0 f.lo else v) := by
  have F0 := hf.F2
  have TF := hf.TF
  have W0 := hf.W_pos
  have XF := hf.XF
  cases v with
  | nan => exact hn.elim
  | inf s =>
    have hs : s = 0 ∨ s = 1 := h
    have e : rkV f (.inf s) = sg s * f.X := by
      unfold rkV sg
      rcases hs with rfl | rfl <;> simp
    rw [e]
    rcases hs with rfl | rfl
    · rw [atV_most hf (by simp [sg]; omega), if_pos (by simp [sg]; omega), if_neg (by simp [sg]; omega)]
      simp [sgn, sg]
      omega
    · rw [atV_most hf (by simp [sg]; omega), if_pos (by simp [sg]; omega), if_neg (by simp [sg]; omega)]
      simp [sgn, sg]
      omega
  | num s c e =>
    have hn : NumOk f s c e := h
    have m0 := M_nn hf hn
    have m1 := M_top hf hn
    have hs := hn.s
    have he := hn.e1
    have c0 := hn.c0
    have c1 : c < f.T := hn.c1
    rw [rk_num hs]
    have na : ((sg s * f.M c e).natAbs : Int) = f.M c e := by
      rcases hs with rfl | rfl <;> simp [sg] <;> omega
    have sn : 0 < f.M c e → sgn (sg s * f.M c e) = s := fun q => by
      rcases hs with rfl | rfl <;> simp [sg, sgn] <;> omega
    have z0 : sg s * f.M c e = 0 ↔ f.M c e = 0 := by
      rcases hs with rfl | rfl <;> simp [sg] <;> omega
    by_cases hF : f.M c e < f.F
    · -- the least place
      have el : e = f.lo := by
        rcases hn.c2 with q | q
        · exact q
        · apply Classical.byContradiction
          intro ne
          have : 1 * f.W ≤ (e - f.lo) * f.W := Int.mul_le_mul_of_nonneg_right (by omega) (by omega)
          have q : f.F ≤ c := q
          unfold Fm.M at hF
          omega
      subst el
      have hM : f.M c f.lo = c := by unfold Fm.M; simp
      rw [atV_lo (by rw [na]; exact hF), na]
      by_cases h0 : f.M c f.lo = 0
      · rw [if_pos (z0.mpr h0), h0]
        simp [sgn, h0]
      · rw [if_neg (fun q => h0 (z0.mp q)), sn (by omega), hM]
    · have hq : (f.M c e - f.F).fdiv f.W = e - f.lo := by
        rcases hn.c2 with q | q
        · refine fdiv_of (r := c - f.F) (by omega) ?_ ?_ ?_
          · unfold Fm.M
            omega
          · unfold Fm.M at hF
            rw [q] at hF
            simp at hF
            omega
          · omega
        · have q : f.F ≤ c := q
          exact fdiv_of (r := c - f.F) (by omega) (by unfold Fm.M; omega) (by omega) (by omega)
      have e2 := hn.e2
      rw [atV_mid (by rw [na]; omega) (by rw [na, hq]; omega), na, hq, sn (by omega), if_neg (fun q => by have := z0.mp q; omega)]
      unfold Fm.M
      congr 2 <;> omega
/-- a rank within has its value -/
theorem rk_at {f : Fm} (hf : FmOk f) {r : Int} (h : (r.natAbs : Int) ≤ f.X) : ∃ v, atV f r = some v ∧ VlOk f v ∧ notNan v ∧ rkV f v = r := by
  have F0 := hf.F2
  have TF := hf.TF
  have W0 := hf.W_pos
  have XF := hf.XF
  have T0 := hf.lh
  have hs : sgn r = 0 ∨ sgn r = 1 := by unfold sgn; split <;> simp
  have sr : sg (sgn r) * (r.natAbs : Int) = r := by
    unfold sgn sg
    split <;> simp <;> omega
  by_cases hF : (r.natAbs : Int) < f.F
  · refine ⟨_, atV_lo hF, ⟨hs, Int.le_refl _, T0, by omega, ?_, .inl rfl⟩, trivial, ?_⟩
    · show (r.natAbs : Int) < f.T
      omega
    · rw [rk_num hs]
      unfold Fm.M
      simp only [Int.sub_self, Int.zero_mul, Int.zero_add]
      exact sr
  · obtain ⟨q, z, a, b, c, d, q0⟩ := hf.steps (m := r.natAbs) (by omega)
    have ho := hf.over b c d
    by_cases hX : (r.natAbs : Int) < f.X
    · have hq := ho.mpr hX
      refine ⟨_, atV_mid (by omega) (by rw [a]; exact hq), ?_, trivial, ?_⟩
      · rw [a]
        refine ⟨hs, by omega, by omega, by omega, ?_, .inr ?_⟩
        · show (r.natAbs : Int) - q * f.W < f.T
          omega
        · show f.F ≤ (r.natAbs : Int) - q * f.W
          omega
      · rw [a, rk_num hs]
        unfold Fm.M
        rw [show f.lo + q - f.lo = q by omega, show q * f.W + ((r.natAbs : Int) - q * f.W) = r.natAbs by omega]
        exact sr
    · refine ⟨.inf (sgn r), ?_, hs, trivial, ?_⟩
      · rw [atV_most hf (by omega), if_pos (by omega)]
      · unfold rkV
        unfold sgn
        split <;> simp_all <;> omega
def isNan : Vl → Bool
  | .nan => true
  | _ => false
theorem nan_eqv (v : Vl) : PyData.eqv (vlD v) (.tuple [.str "nan"]) = isNan v := by
  cases v <;> simp [vlD, isNan, PyData.eqv, PyData.eqvAll]
/-- a format four exponents wider -/
def Fm.w4 (f : Fm) : Fm := ⟨f.b, f.p, f.lo, f.hi + 4⟩
/-- a list of numbers by their places -/
def NumsAt (f : Fm) (ys : List D) : Prop := ∀ (i : Nat) (y : D), ys[i]? = some y → ∃ c e, y = vlD (.num 0 c e) ∧ NumOk f 0 c e ∧ f.M c e = i
theorem NumsAt.more {f : Fm} {ys zs : List D} (h : NumsAt f ys) (h' : ∀ (i : Nat) (y : D), zs[i]? = some y → ∃ c e, y = vlD (.num 0 c e) ∧ NumOk f 0 c e ∧ f.M c e = (ys.length + i : Nat)) : NumsAt f (ys ++ zs) := fun i y q => by
  rw [List.getElem?_append] at q
  split at q
  · exact h i y q
  · obtain ⟨c, e, a, b, d⟩ := h' _ y q
    exact ⟨c, e, a, b, by rw [d]; congr 1; omega⟩
theorem upto_get {a : Int} {n i : Nat} {y : D} (h : (upto a n)[i]? = some y) : i < n ∧ y = .int (a + i) := by
  unfold upto at h
  rw [List.getElem?_map] at h
  by_cases hi : i < n
  · rw [List.getElem?_range hi] at h
    exact ⟨hi, (Option.some.inj h).symm⟩
  · rw [List.getElem?_eq_none (by simp; omega)] at h
    cases h
theorem Bd.powP {b e : Int} (h1 : 2 ≤ b) (h2 : b ≤ 36) (h3 : e.natAbs ≤ 1320) : Bd 7930 (powP b e).1 ∧ Bd 7930 (powP b e).2 := by
  have bb : Bd 6 b := by unfold Bd; omega
  have one : Bd 7930 (1 : Int) := (Bd.lit64 1 (by omega)).up (by decide)
  unfold VI.powP
  split
  · exact ⟨(bb.pow _).up (by omega), one⟩
  · exact ⟨one, (bb.pow _).up (by omega)⟩
def PB (b e : Int) : Prop := e.natAbs ≤ 27000 ∧ Bd 7930 (powP b e).1 ∧ Bd 7930 (powP b e).2
theorem PB.of {b e : Int} (h1 : 2 ≤ b) (h2 : b ≤ 36) (h3 : e.natAbs ≤ 1320) : PB b e := ⟨by omega, Bd.powP h1 h2 h3⟩
/-! ### shapes -/
structure Sh (k : Nat) (d : D) : Prop where
  lay : d.canLay0 = true
  dep : d.depth ≤ k
theorem Sh.up {k l : Nat} {d : D} (h : Sh k d) (e : k ≤ l) : Sh l d := ⟨h.lay, Nat.le_trans h.dep e⟩
theorem Sh.shp {k : Nat} {d : D} (h : Sh k d) (e : k ≤ 64) : Shp d := Bool.and_eq_true_iff.mpr ⟨h.lay, decide_eq_true (Nat.le_trans h.dep e)⟩
theorem Sh.int {k : Nat} {i : Int} : Sh k (.int i) := ⟨by simp [PyData.canLay0], by simp [PyData.depth]⟩
theorem Sh.bool {k : Nat} {i : Bool} : Sh k (.bool i) := ⟨by simp [PyData.canLay0], by simp [PyData.depth]⟩
theorem Sh.none {k : Nat} : Sh k .none := ⟨by simp [PyData.canLay0], by simp [PyData.depth]⟩
theorem Sh.str {k : Nat} {s : Str} (h : PyData.strOk s = true) : Sh k (.str s) := ⟨by simp [PyData.canLay0, h], by simp [PyData.depth]⟩
theorem all_sh {k : Nat} : ∀ {ds : List D}, (∀ d ∈ ds, Sh k d) → PyData.canLayAll0 ds = true ∧ PyData.depthAll ds ≤ k
  | [], _ => ⟨by simp [PyData.canLayAll0], by simp [PyData.depthAll]⟩
  | d :: ds, h => by
    obtain ⟨a, b⟩ := all_sh (ds := ds) fun x hx => h x (List.mem_cons_of_mem _ hx)
    have c := h d List.mem_cons_self
    refine ⟨?_, ?_⟩
    · simp [PyData.canLayAll0, a, c.lay]
    · have := c.dep
      simp [PyData.depthAll]
      omega
theorem Sh.tup {k : Nat} {ds : List D} (h : ∀ d ∈ ds, Sh k d) : Sh (k + 1) (.tuple ds) := by
  obtain ⟨a, b⟩ := all_sh h
  exact ⟨by simp [PyData.canLay0, a], by simp [PyData.depth]; omega⟩
theorem Sh.lst {k : Nat} {ds : List D} (h : ∀ d ∈ ds, Sh k d) : Sh (k + 1) (.list ds) := by
  obtain ⟨a, b⟩ := all_sh h
  exact ⟨by simp [PyData.canLay0, a], by simp [PyData.depth]; omega⟩
theorem Sh.vl {k : Nat} {v : Vl} : Sh (k + 1) (vlD v) := by
  cases v with
  | nan => exact .tup (all_cons (.str (by decide +kernel)) all_nil)
  | inf s => exact .tup (all_cons (.str (by decide +kernel)) (all_cons .int all_nil))
  | num s c e => exact .tup (all_cons (.str (by decide +kernel)) (all_cons .int (all_cons .int (all_cons .int all_nil))))
theorem Sh.fm {k : Nat} {f : Fm} : Sh (k + 1) (fmD f) := .tup (all_cons .int (all_cons .int (all_cons .int (all_cons .int all_nil))))
theorem Sh.dF {k : Nat} {p : P2} : Sh (k + 1) (dF p) := .tup (all_cons .int (all_cons .int all_nil))
theorem shp6 {d : D} (h : Sh 6 d) : Shp d := h.shp (by decide)
theorem rk_lt {f : Fm} (hf : FmOk f) {s c e : Int} (h : NumOk f s c e) : -f.X < rkV f (.num s c e) ∧ rkV f (.num s c e) < f.X := by
  rw [rk_num h.s]
  have := M_nn hf h
  have := M_top hf h
  have XF := hf.XF
  have TF := hf.TF
  have F0 := hf.F_pos
  have W0 := hf.W_pos
  rcases h.s with q | q <;> rw [q] <;> simp [sg] <;> omega
end VI

/-! PL6: loops ahead of their run. -/
namespace VI
open PySem
theorem fr_post {tb : Tb} (ht : tb.Mono) {t it : IE} {b rest : IS} {K : KS} {env0 : En} {st0 : Sto}
    (h : (sem tb it).i env0 st0 fun xs st1 => ∃ P : Nat → En → Sto → Prop,
      (∀ i x env st, xs[i]? = some x → P i env st → (sem tb t).a (.d x) env fun env' => semS tb b env' st { nx := P (i + 1), rt := K.rt, bk := fun env st => semS tb rest env st K, ct := P (i + 1) }) ∧
      (∀ env st, P xs.length env st → semS tb rest env st K) ∧ P 0 env0 st1) : semS tb (.seq (.fr t it b) rest) env0 st0 K := by
  show (sem tb it).i env0 st0 fun xs st => loopF (sem tb t).a (semS tb b) xs env0 st { K with nx := fun env st => semS tb rest env st K }
  refine (sem_mono ht it).i _ _ _ _ ?_ h
  rintro xs st ⟨P, a, b, c⟩
  exact loopF_inv ht (K := { K with nx := fun env st => semS tb rest env st K }) P a b c
theorem seq_cut {tb : Tb} (ht : tb.Mono) {a rest : IS} {env : En} {st : Sto} {K : KS} (R : En → Sto → Prop)
    (h1 : semS tb a env st { nx := R, rt := K.rt, bk := K.bk, ct := K.ct }) (h2 : ∀ env st, R env st → semS tb rest env st K) : semS tb (.seq a rest) env st K :=
  semS_mono ht a env st { nx := R, rt := K.rt, bk := K.bk, ct := K.ct } _ ⟨h2, fun _ _ q => q, fun _ _ q => q, fun _ _ q => q⟩ h1
end VI

/-! PL7: fractions with bounds, worths by powers, the grid. -/
namespace VI
open PySem
structure Fb (k : Nat) (p : P2) : Prop where
  pos : 0 < p.2
  b1 : Bd k p.1
  b2 : Bd k p.2
theorem Fb.ne {k : Nat} {p : P2} (h : Fb k p) : p.2 ≠ 0 := by have := h.pos; omega
theorem Fb.up {k l : Nat} {p : P2} (h : Fb k p) (e : k ≤ l) : Fb l p := ⟨h.pos, h.b1.up e, h.b2.up e⟩
theorem Fra.fb {k : Nat} {p : P2} (h : Fra k p) : Fb k p := ⟨h.can.pos, h.b1, h.b2⟩
theorem Fb.mul {k l : Nat} {p q : P2} (h : Fb k p) (h' : Fb l q) : Fra (k + l) (mulP p q) :=
  Fra.nrm (mul_ne h.ne h'.ne) (h.b1.mul h'.b1) (h.b2.mul h'.b2)
theorem Fb.add {k l : Nat} {p q : P2} (h : Fb k p) (h' : Fb l q) : Fra (k + l + 1) (addP p q) :=
  Fra.nrm (mul_ne h.ne h'.ne) (((h.b1.mul h'.b2).add (h'.b1.mul h.b2)).up (by omega)) ((h.b2.mul h'.b2).up (by omega))
theorem Fb.neg {k : Nat} {p : P2} (h : Fb k p) : Fb k (-p.1, p.2) := ⟨h.pos, h.b1.neg, h.b2⟩
theorem Fra.neg {k : Nat} {p : P2} (h : Fra k p) : Fra k (-p.1, p.2) := ⟨can_neg h.can, h.b1.neg, h.b2⟩
theorem Fb.int {k : Nat} {c : Int} (h : Bd (k + 1) c) : Fb (k + 1) (c, 1) := ⟨by show (0 : Int) < 1; decide, h, by show Bd (k + 1) (1 : Int); have := Nat.pow_le_pow_right (show 0 < 2 by decide) (show 1 ≤ k + 1 by omega); unfold Bd; omega⟩
theorem Fra.int {k : Nat} {c : Int} (h : Bd (k + 1) c) : Fra (k + 1) (c, 1) := ⟨can_int c, h, (Fb.int h).b2⟩
def absP (p : P2) : P2 := (p.1.natAbs, p.2)
theorem Fra.absP {k : Nat} {p : P2} (h : Fra k p) : Fra k (absP p) := ⟨⟨h.can.pos, by show Nat.gcd (p.1.natAbs : Int).natAbs p.2.natAbs = 1; rw [Int.natAbs_natCast]; exact h.can.cop⟩, h.b1.abs, h.b2⟩
theorem Fb.absP {k : Nat} {p : P2} (h : Fb k p) : Fb k (absP p) := ⟨h.pos, h.b1.abs, h.b2⟩
theorem pow_le_pow {b : Int} (hb : 2 ≤ b) {m n : Nat} (h : m ≤ n) : b ^ m ≤ b ^ n := by
  obtain ⟨k, rfl⟩ := Nat.le.dest h
  rw [Int.pow_add]
  have h1 := powI_pos hb m
  have h2 := powI_pos hb k
  have := Int.mul_le_mul_of_nonneg_left (show (1 : Int) ≤ b ^ k by omega) (show (0 : Int) ≤ b ^ m by omega)
  rwa [Int.mul_one] at this
theorem bd_pow_le {b : Int} (hb : 2 ≤ b) {m n k : Nat} (h : m ≤ n) (hk : Bd k (b ^ n)) : Bd k (b ^ m) := by
  refine hk.of_natAbs ?_
  have h1 := pow_le_pow hb h
  have h2 := powI_pos hb m
  omega
/-- the powers between the ends -/
theorem FmOk.bdE {f : Fm} (hf : FmOk f) {e : Int} {n : Nat} (h1 : f.lo ≤ e) (h2 : e ≤ f.hi) (hn : n ≤ e.natAbs) : Bd 2400 (f.b ^ n) := by
  rcases Int.le_total 0 e with h | h
  · exact bd_pow_le hf.b2 (by omega : n ≤ f.hi.natAbs) hf.bh
  · exact bd_pow_le hf.b2 (by omega : n ≤ f.lo.natAbs) hf.bl
theorem FmOk.raP {f : Fm} (hf : FmOk f) {e : Int} (h1 : f.lo ≤ e) (h2 : e ≤ f.hi) : Fra 2400 (powP f.b e) := by
  refine ⟨powP_can hf.b2 e, ?_, ?_⟩
  · unfold powP
    split
    · exact hf.bdE h1 h2 (by omega)
    · exact (Bd.lit64 1 (by decide)).up (by decide)
  · unfold powP
    split
    · exact (Bd.lit64 1 (by decide)).up (by decide)
    · exact hf.bdE h1 h2 (by omega)
/-- a power is a quotient of two -/
theorem bp_quot {b : Int} (hb : 2 ≤ b) (e : Int) : bp b e * ((b ^ (max 0 (-e)).toNat : Int) : Rat) = ((b ^ (max 0 e).toNat : Int) : Rat) := by
  rcases Int.le_total 0 e with h | h
  · obtain ⟨n, rfl⟩ := Int.eq_ofNat_of_zero_le h
    rw [bp_nat, show (max 0 (-(n : Int))).toNat = 0 by omega, show (max 0 (n : Int)).toNat = n by omega]
    simp
  · obtain ⟨n, rfl⟩ : ∃ n : Nat, e = -(n : Int) := ⟨(-e).toNat, by omega⟩
    rw [bp_negn, show (max 0 (- -(n : Int))).toNat = n by omega, show (max 0 (-(n : Int))).toNat = 0 by omega]
    have : ((b ^ n : Int) : Rat) ≠ 0 := rat_ne (by have := powI_pos hb n; omega)
    simp
    grind
theorem wo_ge {b : Int} (hb : 2 ≤ b) {n d : Int} (hd : 0 < d) (t e : Int) : (t : Rat) * bp b e ≤ wo (n, d) ↔ t * (d * b ^ (max 0 e).toNat) ≤ n * b ^ (max 0 (-e)).toNat := by
  have hq := bp_quot hb e
  have hm : (0 : Rat) < ((b ^ (max 0 (-e)).toNat : Int) : Rat) := by exact_mod_cast powI_pos hb _
  have hd' : (0 : Rat) < (d : Rat) := by exact_mod_cast hd
  have key : (t : Rat) * bp b e ≤ wo (n, d) ↔ (t : Rat) * ((d : Rat) * ((b ^ (max 0 e).toNat : Int) : Rat)) ≤ (n : Rat) * ((b ^ (max 0 (-e)).toNat : Int) : Rat) := by
    rw [← hq]
    generalize ((b ^ (max 0 (-e)).toNat : Int) : Rat) = M at hm
    have e1 : (t : Rat) * ((d : Rat) * (bp b e * M)) = ((t : Rat) * bp b e * d) * M := by grind
    rw [e1, ← Rat.not_lt, ← Rat.not_lt, Rat.mul_lt_mul_right hm, Rat.not_lt, Rat.not_lt]
    show _ ≤ (n : Rat) / (d : Rat) ↔ _
    rw [← Rat.not_lt, Rat.div_lt_iff hd', Rat.not_lt]
  rw [key]
  constructor
  · intro h
    exact_mod_cast h
  · intro h
    exact_mod_cast h
theorem wo_gt {b : Int} (hb : 2 ≤ b) {n d : Int} (hd : 0 < d) (t e : Int) : wo (n, d) < (t : Rat) * bp b e ↔ n * b ^ (max 0 (-e)).toNat < t * (d * b ^ (max 0 e).toNat) := by
  have := wo_ge hb (n := n) hd t e
  rw [← Rat.not_le, this, Int.not_le]
theorem wo_eq_iff {b : Int} (hb : 2 ≤ b) {n d : Int} (hd : 0 < d) (t e : Int) : (t : Rat) * bp b e = wo (n, d) ↔ t * (d * b ^ (max 0 e).toNat) = n * b ^ (max 0 (-e)).toNat := by
  have hq := bp_quot hb e
  have hm : ((b ^ (max 0 (-e)).toNat : Int) : Rat) ≠ 0 := rat_ne (by have := powI_pos hb (max 0 (-e)).toNat; omega)
  have hd' : (d : Rat) ≠ 0 := rat_ne (by omega)
  have key : (t : Rat) * bp b e = wo (n, d) ↔ (t : Rat) * ((d : Rat) * ((b ^ (max 0 e).toNat : Int) : Rat)) = (n : Rat) * ((b ^ (max 0 (-e)).toNat : Int) : Rat) := by
    rw [← hq]
    generalize ((b ^ (max 0 (-e)).toNat : Int) : Rat) = M at hm
    show _ = (n : Rat) / (d : Rat) ↔ _
    constructor
    · intro q
      have : (n : Rat) = (t : Rat) * bp b e * d := by rw [q]; grind
      rw [this]
      grind
    · intro q
      have : (t : Rat) * bp b e * d = n := by grind
      rw [← this]
      grind
  rw [key]
  constructor
  · intro h
    exact_mod_cast h
  · intro h
    exact_mod_cast h
theorem bp_lt {b : Int} (hb : 2 ≤ b) {c t : Int} {e : Int} {w : Rat} (h1 : (c : Rat) * bp b e ≤ w) (h2 : w < (t : Rat) * bp b e) : c < t := by
  have h := Std.lt_of_le_of_lt h1 h2
  rw [Rat.mul_lt_mul_right (bp_pos hb e)] at h
  exact_mod_cast h
end VI

/-! PL8: cuts, the number of a fraction. -/
namespace VI
open PySem
abbrev upTo (K : KS) (R : En → Sto → Prop) : KS := { nx := R, rt := K.rt, bk := K.bk, ct := K.ct }
theorem cut2 {tb : Tb} (ht : tb.Mono) {a b rest : IS} {env : En} {st : Sto} {K : KS} (R : En → Sto → Prop)
    (h1 : semS tb (.seq a b) env st (upTo K R)) (h2 : ∀ env st, R env st → semS tb rest env st K) : semS tb (.seq a (.seq b rest)) env st K :=
  show semS tb (.seq a b) env st { K with nx := fun env st => semS tb rest env st K } from
  semS_mono ht (.seq a b) env st (upTo K R) _ ⟨h2, fun _ _ q => q, fun _ _ q => q, fun _ _ q => q⟩ h1
theorem cut3 {tb : Tb} (ht : tb.Mono) {a b c rest : IS} {env : En} {st : Sto} {K : KS} (R : En → Sto → Prop)
    (h1 : semS tb (.seq a (.seq b c)) env st (upTo K R)) (h2 : ∀ env st, R env st → semS tb rest env st K) : semS tb (.seq a (.seq b (.seq c rest))) env st K :=
  show semS tb (.seq a (.seq b c)) env st { K with nx := fun env st => semS tb rest env st K } from
  semS_mono ht (.seq a (.seq b c)) env st (upTo K R) _ ⟨h2, fun _ _ q => q, fun _ _ q => q, fun _ _ q => q⟩ h1
theorem NumOk.sign {f : Fm} {s c e : Int} (h : NumOk f 0 c e) (hs : s = 0 ∨ s = 1) : NumOk f s c e := ⟨hs, h.e1, h.e2, h.c0, h.c1, h.c2⟩
theorem wo_sg0 {b : Int} (hb : 2 ≤ b) (c e : Int) : wo (wv b 0 c e) = (c : Rat) * bp b e := by
  rw [wo_wv hb]
  simp [sg]
theorem bp_split {b : Int} (hb : 2 ≤ b) {e e' : Int} (h : e ≤ e') : bp b e' = ((b ^ (e' - e).toNat : Int) : Rat) * bp b e := by
  have := bp_up hb e (e' - e).toNat
  rwa [show e + ((e' - e).toNat : Int) = e' by omega] at this
end VI

/-! PL9: what prunes. -/
namespace VI
open PySem
theorem strA : (("inf" : Str) = "num") = False := eq_false (by decide)
theorem strB : (("nan" : Str) = "num") = False := eq_false (by decide)
theorem strC : (("num" : Str) = "inf") = False := eq_false (by decide)
theorem strD : (("num" : Str) = "nan") = False := eq_false (by decide)
theorem strE : (("inf" : Str) = "nan") = False := eq_false (by decide)
theorem strF : (("nan" : Str) = "inf") = False := eq_false (by decide)
theorem isNonD_int (i : Int) : isNonD (.int i) = false := rfl
theorem isNonD_none : isNonD .none = true := rfl
theorem isNonD_tup (i : List D) : isNonD (.tuple i) = false := rfl
theorem isNonD_vl (v : Vl) : isNonD (vlD v) = false := by cases v <;> rfl
theorem isNan_num (s c e : Int) : isNan (.num s c e) = false := rfl
theorem isNan_inf (s : Int) : isNan (.inf s) = false := rfl
theorem isNan_nan : isNan .nan = true := rfl
end VI

/-! PL10: powers below, parts. -/
namespace VI
open PySem
theorem two_pow_le {b : Int} (hb : 2 ≤ b) (n : Nat) : (2 : Int) ^ n ≤ b ^ n := by
  induction n with
  | zero => simp
  | succ n ih =>
    rw [Int.pow_succ, Int.pow_succ]
    have := powI_pos hb n
    exact Int.mul_le_mul ih hb (by decide) (by omega)
theorem bd_lt {k : Nat} {x : Int} (h : Bd k x) : x < (2 : Int) ^ k := by
  unfold Bd at h
  have e : ((2 ^ k : Nat) : Int) = (2 : Int) ^ k := by push_cast; rfl
  omega
theorem bp_le_bd {b : Int} (hb : 2 ≤ b) {x : P2} {K : Nat} (hx : Fb K x) (h0 : 0 < x.1) {j : Int} (h : bp b j ≤ wo x) : j ≤ K := by
  apply Classical.byContradiction
  intro z
  have h1 := (wo_ge hb (n := x.1) (d := x.2) hx.pos 1 j).mp (by simpa using h)
  rw [show (max 0 (-j)).toNat = 0 by omega, Int.pow_zero, Int.mul_one, Int.one_mul] at h1
  have h2 := pow_le_pow hb (show K ≤ (max 0 j).toNat by omega)
  have h3 := two_pow_le hb K
  have h4 := bd_lt hx.b1
  have h5 := Int.mul_le_mul_of_nonneg_right (show (1 : Int) ≤ x.2 by have := hx.pos; omega) (show (0 : Int) ≤ b ^ (max 0 j).toNat by have := powI_pos hb (max 0 j).toNat; omega)
  rw [Int.one_mul] at h5
  omega
theorem bp_ge_bd {b : Int} (hb : 2 ≤ b) {x : P2} {K : Nat} (hx : Fb K x) (h0 : 0 < x.1) {j : Int} (h : K ≤ -j) : bp b j ≤ wo x := by
  have h1 := (wo_ge hb (n := x.1) (d := x.2) hx.pos 1 j).mpr (by
    rw [show (max 0 j).toNat = 0 by omega, Int.pow_zero, Int.mul_one, Int.one_mul]
    have h2 := pow_le_pow hb (show K ≤ (max 0 (-j)).toNat by omega)
    have h3 := two_pow_le hb K
    have h4 := bd_lt hx.b2
    have h5 := Int.mul_le_mul_of_nonneg_right (show (1 : Int) ≤ x.1 by omega) (show (0 : Int) ≤ b ^ (max 0 (-j)).toNat by have := powI_pos hb (max 0 (-j)).toNat; omega)
    rw [Int.one_mul] at h5
    omega)
  simpa using h1
def oI : Option Int → D
  | some z => .int z
  | none => .none
def SideAt (b : Int) (x : P2) (c e : Int) : Option Int → Prop
  | none => (c : Rat) * bp b e = wo x
  | some z => (c : Rat) * bp b e < wo x ∧ ((z = 1 ∧ ((2 * c + 1 : Int) : Rat) * bp b e < 2 * wo x) ∨ (z = 0 ∧ ((2 * c + 1 : Int) : Rat) * bp b e = 2 * wo x) ∨ (z = -1 ∧ 2 * wo x < ((2 * c + 1 : Int) : Rat) * bp b e))
structure PartAt (f : Fm) (x : P2) (c e : Int) (sd : Option Int) : Prop where
  e0 : f.lo ≤ e
  e1 : e ≤ 9700
  c0 : 0 ≤ c
  c1 : c < f.T
  cF : e = f.lo ∨ f.F ≤ c
  le : (c : Rat) * bp f.b e ≤ wo x
  lt : wo x < ((c + 1 : Int) : Rat) * bp f.b e
  sd : SideAt f.b x c e sd
theorem wo_two {n d : Int} : wo (2 * n, d) = 2 * wo (n, d) := by
  unfold wo
  show ((2 * n : Int) : Rat) / (d : Rat) = 2 * ((n : Rat) / (d : Rat))
  rw [Rat.div_def, Rat.div_def]
  push_cast
  grind
/-- the side -/
theorem part_side {b : Int} (hb : 2 ≤ b) {n d c e : Int} (hd : 0 < d) (hle : (c : Rat) * bp b e ≤ wo (n, d)) :
    (c * (d * b ^ (max 0 e).toNat) = n * b ^ (max 0 (-e)).toNat → SideAt b (n, d) c e none) ∧
    (c * (d * b ^ (max 0 e).toNat) ≠ n * b ^ (max 0 (-e)).toNat → ∀ r, r = 2 * (n * b ^ (max 0 (-e)).toNat - c * (d * b ^ (max 0 e).toNat)) - d * b ^ (max 0 e).toNat →
      SideAt b (n, d) c e (some ((if 0 < r then 1 else 0) - (if r < 0 then 1 else 0)))) := by
  have hi := wo_eq_iff hb (n := n) hd c e
  refine ⟨fun h => hi.mpr h, fun h r hr => ?_⟩
  have hne : ¬ (c : Rat) * bp b e = wo (n, d) := fun z => h (hi.mp z)
  have hlt : (c : Rat) * bp b e < wo (n, d) := by
    rw [← Rat.not_le]
    intro z
    exact hne (Rat.le_antisymm hle z)
  refine ⟨hlt, ?_⟩
  rw [← wo_two]
  have a := wo_ge hb (n := 2 * n) hd (2 * c + 1) e
  have b1 := wo_gt hb (n := 2 * n) hd (2 * c + 1) e
  have c1 := wo_eq_iff hb (n := 2 * n) hd (2 * c + 1) e
  generalize d * b ^ (max 0 e).toNat = P at *
  rw [Int.mul_assoc 2 n] at a b1 c1
  generalize n * b ^ (max 0 (-e)).toNat = M at *
  have e1 : (2 * c + 1) * P = 2 * (c * P) + P := by grind
  rw [e1] at a b1 c1
  rcases Int.lt_trichotomy r 0 with z | z | z
  · right
    right
    refine ⟨by rw [if_neg (by omega), if_pos z]; omega, b1.mpr (by omega)⟩
  · right
    left
    refine ⟨by rw [if_neg (by omega), if_neg (by omega)]; omega, c1.mpr (by omega)⟩
  · left
    refine ⟨by rw [if_pos z, if_neg (by omega)]; omega, ?_⟩
    rw [← Rat.not_le]
    intro y
    have : ¬ wo (2 * n, d) < ((2 * c + 1 : Int) : Rat) * bp b e := fun q => by
      have := b1.mp q
      omega
    have h3 : ((2 * c + 1 : Int) : Rat) * bp b e = wo (2 * n, d) := by
      refine Rat.le_antisymm ?_ y
      rw [← Rat.not_lt]
      exact this
    have := c1.mp h3
    omega
end VI

/-! PL11: parts are unique and exist; the ladder. -/
namespace VI
open PySem
/-- nothing of a lesser exponent reaches as far -/
theorem low_lt {f : Fm} (hf : FmOk f) {c e c' e' : Int} (he : e' < e) (hF : f.F ≤ c) (h' : c' + 1 ≤ f.T) : ((c' + 1 : Int) : Rat) * bp f.b e' ≤ (c : Rat) * bp f.b e := by
  have e1 := bp_split hf.b2 (show e' + 1 ≤ e by omega)
  rw [e1, bp_one hf.b2]
  have e2 : (c : Rat) * (((f.b ^ (e - (e' + 1)).toNat : Int) : Rat) * ((f.b : Rat) * bp f.b e')) = ((c * f.b * f.b ^ (e - (e' + 1)).toNat : Int) : Rat) * bp f.b e' := by
    push_cast
    grind
  rw [e2, ← Rat.not_lt, Rat.mul_lt_mul_right (bp_pos hf.b2 e')]
  have hle : c' + 1 ≤ c * f.b * f.b ^ (e - (e' + 1)).toNat := by
    have hT := hf.T_eq
    have hb := hf.b2
    have p := powI_pos hf.b2 (e - (e' + 1)).toNat
    have F0 := hf.F_pos
    have a1 : f.F * f.b ≤ c * f.b := Int.mul_le_mul_of_nonneg_right hF (by omega)
    rw [Int.mul_comm f.F, ← hT] at a1
    have a2 := Int.mul_le_mul_of_nonneg_left (show (1 : Int) ≤ f.b ^ (e - (e' + 1)).toNat by omega) (show (0 : Int) ≤ c * f.b by have := hf.XF; have := hf.TF; have := hf.W_pos; omega)
    omega
  intro z
  have : c * f.b * f.b ^ (e - (e' + 1)).toNat < c' + 1 := by exact_mod_cast z
  omega
theorem part_uniq {f : Fm} (hf : FmOk f) {x : P2} {c e c' e' : Int} {sd sd' : Option Int} (h : PartAt f x c e sd) (h' : PartAt f x c' e' sd') : c = c' ∧ e = e' ∧ sd = sd' := by
  have noLess : ∀ {c e c' e' : Int} {sd sd' : Option Int}, PartAt f x c e sd → PartAt f x c' e' sd' → ¬ e' < e := fun {c e c' e' sd sd'} h h' z => by
    have hF : f.F ≤ c := by
      rcases h.cF with q | q
      · have := h'.e0
        omega
      · exact q
    have := low_lt hf (c' := c') z hF (by have := h'.c1; omega)
    exact absurd (Std.lt_of_lt_of_le h'.lt (Rat.le_trans this h.le)) Rat.lt_irrefl
  have he : e = e' := by
    have a := noLess h h'
    have b := noLess h' h
    omega
  subst he
  have a := bp_lt hf.b2 h.le h'.lt
  have b := bp_lt hf.b2 h'.le h.lt
  have hc : c = c' := by omega
  subst hc
  refine ⟨rfl, rfl, ?_⟩
  have s := h.sd
  have s' := h'.sd
  cases sd with
  | none =>
    cases sd' with
    | none => rfl
    | some z =>
      have s : (c : Rat) * bp f.b e = wo x := s
      have s' := s'.1
      rw [s] at s'
      exact absurd s' Rat.lt_irrefl
  | some z =>
    cases sd' with
    | none =>
      have s' : (c : Rat) * bp f.b e = wo x := s'
      have s := s.1
      rw [s'] at s
      exact absurd s Rat.lt_irrefl
    | some z' =>
      have s := s.2
      have s' := s'.2
      congr 1
      rcases s with ⟨rfl, a⟩ | ⟨rfl, a⟩ | ⟨rfl, a⟩ <;> rcases s' with ⟨rfl, b⟩ | ⟨rfl, b⟩ | ⟨rfl, b⟩ <;> first | rfl | (exfalso; grind)
/-- a border in a row -/
theorem border {P : Nat → Prop} (n : Nat) (hP : ∀ i j, i ≤ j → j < n → P j → P i) : ∃ t, t ≤ n ∧ ∀ i, i < n → (P i ↔ i < t) := by
  induction n with
  | zero => exact ⟨0, Nat.le_refl _, fun i h => by omega⟩
  | succ n ih =>
    obtain ⟨t, ht, h⟩ := ih fun i j a b c => hP i j a (by omega) c
    by_cases hn : P n
    · refine ⟨n + 1, Nat.le_refl _, fun i hi => ⟨fun _ => hi, fun _ => hP i n (by omega) (by omega) hn⟩⟩
    · refine ⟨t, by omega, fun i hi => ?_⟩
      by_cases hin : i < n
      · exact h i hin
      · have : i = n := by omega
        subst this
        exact ⟨fun z => absurd z hn, fun z => by omega⟩
end VI

/-! PL12: neighbours by going through. -/
namespace VI
open PySem
structure LadAt (f : Fm) (ys : List D) : Prop where
  len : ys.length = f.w4.X.toNat
  at_ : ∀ (i : Nat) (y : D), ys[i]? = some y → ∃ c e, y = .tuple [dF (wv f.b 0 c e), vlD (.num 0 c e)] ∧ NumOk f.w4 0 c e ∧ f.w4.M c e = i
theorem fit_num {s c e : Int} (hs : s = 0 ∨ s = 1) (hc : Bd 700 c) (he : e.natAbs ≤ 30000) : Fit 2 18000 (vlD (.num s c e)) := by
  have st : Fit 1 4310 (.str "num") := ⟨by decide +kernel, by decide +kernel, by decide +kernel, by decide +kernel⟩
  refine (Fit.tup (all_cons st (all_cons ((Fit.bd (Bd.lit64 s (by omega)) (by decide)).up (k' := 1) (w' := 4310) (by decide) (by decide)) (all_cons ((Fit.bd hc (by decide)).up (k' := 1) (w' := 4310) (by decide) (by decide)) (all_cons ((Fit.bd (Bd.lit64 e (by omega)) (by decide)).up (k' := 1) (w' := 4310) (by decide) (by decide)) all_nil))))).up (by decide) (by simp)
theorem mulP_nn {p q : P2} (hp : 0 ≤ p.1) (hp2 : 0 < p.2) (hq : 0 ≤ q.1) (hq2 : 0 < q.2) : 0 ≤ (mulP p q).1 := by
  have hd : 0 < p.2 * q.2 := Int.mul_pos hp2 hq2
  have e := nrm_eq (n := p.1 * q.1) (d := p.2 * q.2) (by omega)
  have h2 := (nrm_can (n := p.1 * q.1) (d := p.2 * q.2) (by omega)).pos
  have hn : 0 ≤ p.1 * q.1 * (nrm (p.1 * q.1) (p.2 * q.2)).2 := Int.mul_nonneg (Int.mul_nonneg hp hq) (by omega)
  rw [← e] at hn
  apply Int.not_lt.mp
  intro z
  have : (nrm (p.1 * q.1) (p.2 * q.2)).1 * (p.2 * q.2) < 0 * (p.2 * q.2) := Int.mul_lt_mul_of_pos_right z hd
  omega
theorem powP_nn {b : Int} (hb : 2 ≤ b) (e : Int) : 0 ≤ (powP b e).1 := by
  unfold powP
  split
  · exact Int.le_of_lt (powI_pos hb _)
  · show (0 : Int) ≤ 1
    decide
theorem absP_wv {b : Int} (hb : 2 ≤ b) {s c e : Int} (hc : 0 ≤ c) : absP (wv b s c e) = wv b 0 c e := by
  have h := mulP_nn (p := (c, 1)) (q := powP b e) hc (by show (0 : Int) < 1; decide) (powP_nn hb e) (powP_can hb e).pos
  have e0 : wv b 0 c e = mulP (c, 1) (powP b e) := by unfold wv; simp
  rw [e0]
  unfold wv absP
  split <;> (refine Prod.ext ?_ rfl; show (Int.natAbs _ : Int) = _; omega)
theorem wv_fra {f : Fm} (hf : FmOk f) {s c e : Int} (h : NumOk f s c e) : Fra 3200 (wv f.b s c e) := by
  have fe := hf.raP h.e1 h.e2
  have c1 : c < f.T := h.c1
  have c0 := h.c0
  have fc : Fb 641 (c, 1) := Fb.int (k := 640) ((hf.bdT.of_natAbs (show c.natAbs ≤ f.T.natAbs by omega)).up (by decide))
  have m := (fc.mul fe.fb).up (show 641 + 2400 ≤ 3200 by decide)
  unfold wv
  split
  · exact m.neg
  · exact m
theorem wv_sign {f : Fm} (hf : FmOk f) {s c e : Int} (h : NumOk f s c e) : ((wv f.b s c e).1 ≠ 0 ↔ c ≠ 0) ∧ ((wv f.b s c e).1 < 0 ↔ s = 1 ∧ c ≠ 0) := by
  have fc := wv_fra hf h
  have hm := mulP_nn (p := (c, 1)) (q := powP f.b e) h.c0 (by show (0 : Int) < 1; decide) (powP_nn hf.b2 e) (powP_can hf.b2 e).pos
  have z0 : (mulP (c, 1) (powP f.b e)).1 = 0 ↔ c = 0 := by
    have p := powP_can hf.b2 e
    have w := wo_mul (can_int c) p
    rw [wo_int] at w
    have cm := can_mul (can_int c) p
    have bp0 := bp_pos hf.b2 e
    constructor
    · intro z
      have : wo (mulP (c, 1) (powP f.b e)) = 0 := by
        unfold wo
        rw [z]
        show ((0 : Int) : Rat) / _ = 0
        rw [Rat.div_def]
        simp
      rw [this] at w
      have w : 0 = (c : Rat) * bp f.b e := w
      have : (c : Rat) = 0 := by
        have : bp f.b e ≠ 0 := by grind
        grind
      exact_mod_cast this
    · intro z
      subst z
      apply Classical.byContradiction
      intro y
      have := wo_ne cm y
      rw [w] at this
      exact this (by simp)
  have hs := h.s
  unfold wv
  rcases hs with rfl | rfl
  · simp
    omega
  · simp
    omega
end VI

/-! PL13: outcomes, the nearest. -/
namespace VI
open PySem
/-- whether the size is rounded up -/
def upB (way : Str) (s c : Int) : Option Int → Bool
  | none => false
  | some z => if way = "zero" then false else if way = "up" then decide (s = 0) else if way = "down" then !decide (s = 0) else if z = 0 then (decide (way = "away") || decide (c % 2 = 1)) else decide (0 < z)
/-- the next greater size -/
def uN (f : Fm) (c e : Int) : Int × Int := if c + 1 = f.T then (f.F, e + 1) else (c + 1, e)
def upC (f : Fm) (way : Str) (s c e : Int) (sd : Option Int) : Int × Int := if upB way s c sd = true then uN f c e else (c, e)
def infB (way : Str) (s : Int) : Bool := decide (way = "even") || decide (way = "away") || decide (way = if s = 0 then "up" else "down")
def finV (f : Fm) (way : Str) (s c e : Int) (sd : Option Int) : Vl :=
  if f.hi < (upC f way s c e sd).2 then (if infB way s = true then .inf s else .num s (f.T - 1) f.hi) else .num s (upC f way s c e sd).1 (upC f way s c e sd).2
def finG (f : Fm) (way : Str) (s c e : Int) (sd : Option Int) : List Str :=
  if f.hi < (upC f way s c e sd).2 then ["inexact", "over"] else if sd.isSome = true ∧ c < f.F then ["inexact", "tiny"] else if sd.isNone = true then [] else ["inexact"]
def finD (f : Fm) (way : Str) (s c e : Int) (sd : Option Int) : D := .tuple [vlD (finV f way s c e sd), .tuple ((finG f way s c e sd).map PyData.str)]
/-- what a VALUE is turned to, its parts given -/
def ab (q : Rat) : Rat := if 0 ≤ q then q else -q
theorem mul_le_bp {b : Int} (hb : 2 ≤ b) {c d : Int} (h : c ≤ d) (e : Int) : (c : Rat) * bp b e ≤ (d : Rat) * bp b e := by
  rw [← Rat.not_lt, Rat.mul_lt_mul_right (bp_pos hb e)]
  intro z
  have : d < c := by exact_mod_cast z
  omega
theorem mul_lt_bp {b : Int} (hb : 2 ≤ b) {c d : Int} (h : c < d) (e : Int) : (c : Rat) * bp b e < (d : Rat) * bp b e := by
  rw [Rat.mul_lt_mul_right (bp_pos hb e)]
  exact_mod_cast h
def nearW (way : Str) : Prop := way = "even" ∨ way = "away"
theorem nearW.up {way : Str} (h : nearW way) (s c z : Int) : upB way s c (some z) = (if z = 0 then (decide (way = "away") || decide (c % 2 = 1)) else decide (0 < z)) := by
  show (if way = "zero" then false else if way = "up" then decide (s = 0) else if way = "down" then !decide (s = 0) else if z = 0 then (decide (way = "away") || decide (c % 2 = 1)) else decide (0 < z)) = _
  have n1 : ("even" : Str) ≠ "zero" := by decide
  have n2 : ("away" : Str) ≠ "zero" := by decide
  have n5 : ("even" : Str) ≠ "up" := by decide
  have n6 : ("even" : Str) ≠ "down" := by decide
  have n7 : ("away" : Str) ≠ "up" := by decide
  have n8 : ("away" : Str) ≠ "down" := by decide
  rcases h with rfl | rfl
  · rw [if_neg n1, if_neg n5, if_neg n6]
  · rw [if_neg n2, if_neg n7, if_neg n8]
theorem nearW.inf {way : Str} (h : nearW way) (s : Int) : infB way s = true := by
  unfold infB
  rcases h with rfl | rfl <;> simp
/-- what is nearest -/
structure NearTo (f : Fm) (way : Str) (x : P2) (c' e' : Int) : Prop where
  ok : NumOk f 0 c' e'
  least : ∀ c e, NumOk f 0 c e → ¬ ab ((c : Rat) * bp f.b e - wo x) < ab ((c' : Rat) * bp f.b e' - wo x)
  tie : (∀ c e, NumOk f 0 c e → ab ((c : Rat) * bp f.b e - wo x) = ab ((c' : Rat) * bp f.b e' - wo x) → c = c' ∧ e = e') ∨
    ((way = "even" → c' % 2 = 0) ∧ (way = "away" → ∀ c e, NumOk f 0 c e → ab ((c : Rat) * bp f.b e - wo x) = ab ((c' : Rat) * bp f.b e' - wo x) → (c : Rat) * bp f.b e ≤ (c' : Rat) * bp f.b e'))
/-! ### rounded, turned -/
def sgF (x : P2) : Int := if x.1 < 0 then 1 else 0
def RoundTo (f : Fm) (way : Str) (x : P2) (s : Int) (w : Vl) (G : List Str) : Prop :=
  (x.1 = 0 ∧ w = .num s 0 f.lo ∧ G = []) ∨ (x.1 ≠ 0 ∧ ∃ c e sd, PartAt f (absP x) c e sd ∧ w = finV f way (sgF x) c e sd ∧ G = finG f way (sgF x) c e sd)
def TurnedTo (f : Fm) (way : Str) (o : Fm) : Vl → Vl → List Str → Prop
  | .num s c e, w, G => RoundTo o way (wv f.b s c e) s w G
  | v, w, G => w = v ∧ G = []
theorem sgF01 (x : P2) : sgF x = 0 ∨ sgF x = 1 := by
  unfold sgF
  split
  · exact .inr rfl
  · exact .inl rfl
theorem round_uniq {f : Fm} (hf : FmOk f) {way : Str} {x : P2} {s : Int} {w w' : Vl} {G G' : List Str} (h : RoundTo f way x s w G) (h' : RoundTo f way x s w' G') : w = w' ∧ G = G' := by
  rcases h with ⟨z, rfl, rfl⟩ | ⟨z, c, e, sd, hp, rfl, rfl⟩
  · rcases h' with ⟨_, rfl, rfl⟩ | ⟨y, _⟩
    · exact ⟨rfl, rfl⟩
    · exact absurd z y
  · rcases h' with ⟨y, _⟩ | ⟨_, c', e', sd', hp', rfl, rfl⟩
    · exact absurd y z
    · obtain ⟨rfl, rfl, rfl⟩ := part_uniq hf hp hp'
      exact ⟨rfl, rfl⟩
end VI

/-! PL14: rounding by the law's neighbours. -/
namespace VI
open PySem
def topP (f : Fm) : P2 := mulP (f.T - 1, 1) (powP f.b f.hi)
/-- a number's parts -/
theorem num_part {f : Fm} (hf : FmOk f) {c e : Int} (h : NumOk f 0 c e) : PartAt f (wv f.b 0 c e) c e none := by
  have w := wo_sg0 hf.b2 c e
  have e2 := h.e2
  have hi := hf.h
  refine ⟨h.e1, by omega, h.c0, h.c1, h.c2, by rw [w]; exact Rat.le_refl, by rw [w]; exact mul_lt_bp hf.b2 (by omega) _, ?_⟩
  show _ = _
  rw [w]
theorem top_ok {f : Fm} (hf : FmOk f) : NumOk f 0 (f.T - 1) f.hi := by
  have TF := hf.TF
  have F0 := hf.F_pos
  have W0 := hf.W_pos
  exact ⟨.inl rfl, hf.lh, Int.le_refl _, by omega, by show f.T - 1 < f.T; omega, .inr (by show f.F ≤ f.T - 1; omega)⟩
end VI

/-! PL15: the formats that the laws draw. -/
namespace VI
open PySem
theorem mem_fm {l : List Fm} {y : D} (h : y ∈ l.map fmD) : ∃ f, y = fmD f ∧ f ∈ l := by
  obtain ⟨f, hf, rfl⟩ := List.mem_map.mp h
  exact ⟨f, rfl, hf⟩
/-- wider, for half-way points -/
def Fm.hw (f : Fm) : Fm := ⟨f.b, min 120 (f.p + 2), max (-1200) (f.lo - 2), min 1200 (f.hi + 3)⟩
def flags4 : List (List Str) := [[], ["inexact"], ["inexact", "tiny"], ["inexact", "over"]]
theorem fit_fl {G : List Str} (h : G ∈ flags4) : Fit 2 10000 (.tuple (G.map PyData.str)) := by
  have i : Fit 1 4310 (.str "inexact") := ⟨by decide +kernel, by decide +kernel, by decide +kernel, by decide +kernel⟩
  have t : Fit 1 4310 (.str "tiny") := ⟨by decide +kernel, by decide +kernel, by decide +kernel, by decide +kernel⟩
  have o : Fit 1 4310 (.str "over") := ⟨by decide +kernel, by decide +kernel, by decide +kernel, by decide +kernel⟩
  simp only [flags4, List.mem_cons, List.not_mem_nil, or_false] at h
  rcases h with rfl | rfl | rfl | rfl
  · exact (Fit.tup (k := 1) (w := 4310) all_nil).up (by decide) (by simp)
  · exact (Fit.tup (all_cons i all_nil)).up (by decide) (by simp)
  · exact (Fit.tup (all_cons i (all_cons t all_nil))).up (by decide) (by simp)
  · exact (Fit.tup (all_cons i (all_cons o all_nil))).up (by decide) (by simp)
end VI

/-! PL16: sums, products, quotients. -/
namespace VI
open PySem
def oppV : Vl → Vl
  | .nan => .nan
  | .inf s => .inf (1 - s)
  | .num s c e => .num (1 - s) c e
/-! ### each is one VALUE with known flags -/
def flags6 : List (List Str) := ["invalid"] :: ["by"] :: flags4
structure OneOut (f : Fm) (R : Vl → List Str → Prop) : Prop where
  uniq : ∀ w G w' G', R w G → R w' G' → w = w' ∧ G = G'
  vl : ∀ w G, R w G → VlOk f w
  fl : ∀ w G, R w G → G ∈ flags6
end VI

/-! PL17: products added to, small formats. -/
namespace VI
open PySem
def zerV : Vl → Bool
  | .num _ c _ => decide (c = 0)
  | _ => false
/-- the worths of a format are short -/
def WvB (f : Fm) (k : Nat) : Prop := ∀ s c e, NumOk f s c e → Fra k (wv f.b s c e)
end VI

/-! PL18: rounding by going through. -/
namespace VI
open PySem
theorem tgt_var {tb : Tb} {i : Nat} {ev : EV} {env : En} {b : IS} {st : Sto} {K : KS} (h : semS tb b (put env i ev) st K) : (sem tb (.var i)).a ev env fun env' => semS tb b env' st K := h
def Fm.w5 (f : Fm) : Fm := ⟨f.b, f.p, f.lo, f.hi + 5⟩
section
variable {f : Fm} {ys : List D} {x : P2} {c e : Int} {sd : Option Int}
end
end VI

/-! PL19: the greatest errors. -/
namespace VI
open PySem
end VI

/-! PL20: errors of what is rounded below a size. -/
namespace VI
open PySem
theorem bp_mono {b : Int} (hb : 2 ≤ b) {e e' : Int} (h : e ≤ e') : bp b e ≤ bp b e' := by
  rw [bp_split hb h]
  have p := powI_pos hb (e' - e).toNat
  have := mul_le_bp hb (show (1 : Int) ≤ b ^ (e' - e).toNat by omega) e
  have e1 : ((1 : Int) : Rat) * bp b e = bp b e := by simp
  rw [e1] at this
  exact this
end VI

/-! PL21: a half-way point. -/
namespace VI
open PySem
end VI

/-! PL22: rests (k27). -/
namespace VI
open PySem
end VI

/-! PL23: what a rounded sum or product lacks (k50). -/
namespace VI
open PySem
theorem Fb.sub {k l : Nat} {p q : P2} (h : Fb k p) (h' : Fb l q) : Fra (k + l + 1) (subP p q) :=
  Fra.nrm (mul_ne h.ne h'.ne) (((h.b1.mul h'.b2).sub (h'.b1.mul h.b2)).up (by omega)) ((h.b2.mul h'.b2).up (by omega))
structure EvenAt (f : Fm) (x : P2) (s k j c e : Int) : Prop where
  sg : s = sgF x
  num : NumOk f s k j
  hi : e ≤ f.hi
  eq : ∃ m : Int, (k : Rat) * bp f.b j = (m : Rat) * bp f.b e
  lo : wo (absP (subP x (wv f.b s k j))) ≤ wo (absP x) - (c : Rat) * bp f.b e
  up : wo (absP (subP x (wv f.b s k j))) ≤ ((c + 1 : Int) : Rat) * bp f.b e - wo (absP x)
end VI

/-! PL24: rounding never falls (k14). -/
namespace VI
open PySem
end VI

/-! PL25: spans (k64). -/
namespace VI
open PySem
inductive Sp where
  | no
  | sp (lo hi : Vl)
def spD : Sp → D
  | .no => .tuple [.str "none"]
  | .sp a b => .tuple [.str "span", vlD a, vlD b]
def placeV : Vl → Vl
  | .num s c e => if c = 0 then .num 0 c e else .num s c e
  | v => v
structure EndOk (f : Fm) (v : Vl) : Prop where
  ok : VlOk f v
  nn : notNan v
  pl : placeV v = v
structure SpOk (f : Fm) (x y : Vl) : Prop where
  a : EndOk f x
  b : EndOk f y
  na : x ≠ Vl.inf 0
  nb : y ≠ Vl.inf 1
def SpanOk (f : Fm) : Sp → Prop
  | .no => True
  | .sp a b => SpOk f a b
theorem zero_lo {f : Fm} (hf : FmOk f) {s e : Int} (h : NumOk f s 0 e) : e = f.lo := by
  rcases h.c2 with q | q
  · exact q
  · have q : f.F ≤ 0 := q
    have := hf.F_pos
    omega
def ltB (f : Fm) (x y : Vl) : Bool := decide (rkV f x < rkV f y)
/-- ends of one rank are one -/
theorem end_inj {f : Fm} (hf : FmOk f) {x y : Vl} (hx : EndOk f x) (hy : EndOk f y) (h : rkV f x = rkV f y) : x = y := by
  have F0 := hf.F_pos
  have TF := hf.TF
  have W0 := hf.W_pos
  have XF := hf.XF
  have nx := hx.nn
  have ny := hy.nn
  cases x with
  | nan => exact nx.elim
  | inf s =>
    have hs : s = 0 ∨ s = 1 := hx.ok
    cases y with
    | nan => exact ny.elim
    | inf t =>
      have ht : t = 0 ∨ t = 1 := hy.ok
      have h : (if s = 1 then -f.X else f.X) = (if t = 1 then -f.X else f.X) := h
      rcases hs with rfl | rfl <;> rcases ht with rfl | rfl <;> first | rfl | (simp at h; omega)
    | num t c e =>
      have l := rk_lt hf (show NumOk f t c e from hy.ok)
      rw [← h] at l
      have l : -f.X < (if s = 1 then -f.X else f.X) ∧ (if s = 1 then -f.X else f.X) < f.X := l
      split at l <;> omega
  | num s c e =>
    cases y with
    | nan => exact ny.elim
    | inf t =>
      have l := rk_lt hf (show NumOk f s c e from hx.ok)
      rw [h] at l
      have l : -f.X < (if t = 1 then -f.X else f.X) ∧ (if t = 1 then -f.X else f.X) < f.X := l
      split at l <;> omega
    | num t c' e' =>
      have a : NumOk f s c e := hx.ok
      have b : NumOk f t c' e' := hy.ok
      rw [rk_num a.s, rk_num b.s] at h
      have m1 := M_nn hf a
      have m2 := M_nn hf b
      have i1 := M_lt hf a b
      have i2 := M_lt hf b a
      have px : (if c = 0 then Vl.num 0 c e else .num s c e) = .num s c e := hx.pl
      have py : (if c' = 0 then Vl.num 0 c' e' else .num t c' e') = .num t c' e' := hy.pl
      have ce : f.M c e = f.M c' e' → c = c' ∧ e = e' := fun q => by
        rcases Int.lt_trichotomy e e' with z | z | z
        · have := i1.1 z
          omega
        · rcases Int.lt_trichotomy c c' with y | y | y
          · have := (i1.2 z).mpr y
            omega
          · exact ⟨y, z⟩
          · have := (i2.2 z.symm).mpr y
            omega
        · have := i2.1 z
          omega
      have c0 : f.M c e = 0 → c = 0 := fun q => by
        have := a.c0
        have := Int.mul_nonneg (show 0 ≤ e - f.lo by have := a.e1; omega) (show 0 ≤ f.W by omega)
        unfold Fm.M at q
        omega
      have eM : f.M c e = f.M c' e' := by
        unfold sg at h
        split at h <;> split at h <;> omega
      obtain ⟨rfl, rfl⟩ := ce eM
      by_cases z : c = 0
      · rw [if_pos z] at px py
        rw [← px, ← py]
      · have : f.M c e ≠ 0 := fun q => z (c0 q)
        have : s = t := by
          rcases a.s with rfl | rfl <;> rcases b.s with rfl | rfl <;> first | rfl | (unfold sg at h; simp at h; omega)
        rw [this]
def liesS (f : Fm) : Sp → Sp → Bool
  | .no, _ => true
  | _, .no => false
  | .sp a b, .sp c d => !(ltB f a c) && !(ltB f d b)
theorem tie {f : Fm} (hf : FmOk f) {x y : Vl} (hx : EndOk f x) (hy : EndOk f y) : (if ltB f x y = true then x else y) = (if ltB f y x = true then y else x) := by
  unfold ltB
  simp only [decide_eq_true_eq]
  by_cases a : rkV f x < rkV f y
  · rw [if_pos a, if_neg (by omega)]
  · by_cases b : rkV f y < rkV f x
    · rw [if_neg a, if_pos b]
    · rw [if_neg a, if_neg b]
      exact (end_inj hf hx hy (by omega)).symm
/-! ### ends told as fractions -/
inductive Ew where
  | inf (s : Int)
  | fr (x : P2)
def endE (f : Fm) : Vl → Ew
  | .num s c e => .fr (wv f.b s c e)
  | .inf s => .inf s
  | .nan => .inf 0
def EwOk (K : Nat) : Ew → Prop
  | .inf s => s = 0 ∨ s = 1
  | .fr x => Fra K x
end VI

/-! PL26: roots (k26). -/
namespace VI
open PySem
theorem bp_zero {b : Int} (hb : 2 ≤ b) : bp b 0 = 1 := by
  unfold bp powP
  rw [if_pos (Int.le_refl 0)]
  show wo (b ^ 0, 1) = 1
  rw [Int.pow_zero, wo_int]
  rfl
def RSide (b : Int) (x : P2) (c e : Int) : Option Int → Prop
  | none => ((c * c : Int) : Rat) * bp (b * b) e = wo x
  | some z => ((c * c : Int) : Rat) * bp (b * b) e < wo x ∧ ((z = 1 ∧ (((2 * c + 1) * (2 * c + 1) : Int) : Rat) * bp (b * b) e < 4 * wo x) ∨ (z = 0 ∧ (((2 * c + 1) * (2 * c + 1) : Int) : Rat) * bp (b * b) e = 4 * wo x) ∨ (z = -1 ∧ 4 * wo x < (((2 * c + 1) * (2 * c + 1) : Int) : Rat) * bp (b * b) e))
/-- c, e, side of the root of a fraction -/
structure RootAt (f : Fm) (x : P2) (c e : Int) (sd : Option Int) : Prop where
  e0 : f.lo ≤ e
  e1 : e ≤ 9700
  c0 : 0 ≤ c
  c1 : c < f.T
  cF : e = f.lo ∨ f.F ≤ c
  le : ((c * c : Int) : Rat) * bp (f.b * f.b) e ≤ wo x
  lt : wo x < (((c + 1) * (c + 1) : Int) : Rat) * bp (f.b * f.b) e
  sd : RSide f.b x c e sd
theorem fin_nrm {f : Fm} (hf : FmOk f) {way : Str} {s c e : Int} {sd : Option Int} (hs : s = 0 ∨ s = 1) (e0 : f.lo ≤ e) (c0 : 0 ≤ c) (c1 : c < f.T) (cF : e = f.lo ∨ f.F ≤ c) : VlOk f (finV f way s c e sd) := by
  have TF := hf.TF
  have F0 := hf.F_pos
  have W0 := hf.W_pos
  unfold finV
  by_cases h : f.hi < (upC f way s c e sd).2
  · rw [if_pos h]
    split
    · exact hs
    · exact (top_ok hf).sign hs
  · rw [if_neg h]
    show NumOk f s (upC f way s c e sd).1 (upC f way s c e sd).2
    revert h
    unfold upC uN
    split
    · split
      · intro h
        exact ⟨hs, by show f.lo ≤ e + 1; omega, by have h : ¬ f.hi < e + 1 := h; show e + 1 ≤ f.hi; omega, by show 0 ≤ f.F; omega, by show f.F < f.T; omega, .inr (Int.le_refl f.F)⟩
      · intro h
        refine ⟨hs, e0, by have h : ¬ f.hi < e := h; show e ≤ f.hi; omega, by show 0 ≤ c + 1; omega, by show c + 1 < f.T; omega, ?_⟩
        rcases cF with q | q
        · exact .inl q
        · exact .inr (by show f.F ≤ c + 1; omega)
    · intro h
      exact ⟨hs, e0, by have h : ¬ f.hi < e := h; show e ≤ f.hi; omega, c0, c1, cF⟩
theorem RootAt.fin {f : Fm} (hf : FmOk f) {x : P2} {c e : Int} {sd : Option Int} (h : RootAt f x c e sd) (way : Str) : VlOk f (finV f way 0 c e sd) := fin_nrm hf (.inl rfl) h.e0 h.c0 h.c1 h.cF
structure RootF (f : Fm) (x : P2) (c e : Int) (sd : Option Int) : Prop where
  ex : c * c * (powP f.b (2 * e)).1 * x.2 = x.1 * (powP f.b (2 * e)).2 ↔ sd = none
  lo : ∀ z, sd = some z → (x.1 * (4 * (powP f.b (2 * e)).2) < (2 * c + 1) * (2 * c + 1) * (powP f.b (2 * e)).1 * x.2 ↔ z = -1)
  hi : ∀ z, sd = some z → ((2 * c + 1) * (2 * c + 1) * (powP f.b (2 * e)).1 * x.2 < x.1 * (4 * (powP f.b (2 * e)).2) ↔ z = 1)
  zz : ∀ z, sd = some z → z = 1 ∨ z = 0 ∨ z = -1
  ti : x.1 * (powP f.b (2 * (f.lo + f.p - 1))).2 < (powP f.b (2 * (f.lo + f.p - 1))).1 * x.2 ↔ c < f.F
end VI

/-! PL27: whole numbers (k28). -/
namespace VI
open PySem
/-- a NUMBER's rounding is itself -/
theorem round_self {f : Fm} (hf : FmOk f) {way : Str} {s c e : Int} (h : NumOk f s c e) : RoundTo f way (wv f.b s c e) s (.num s c e) [] := by
  by_cases z : c = 0
  · subst z
    have : e = f.lo := by
      rcases h.c2 with q | q
      · exact q
      · have := hf.F_pos
        have q : f.F ≤ 0 := q
        omega
    subst this
    refine .inl ⟨?_, rfl, rfl⟩
    have := (wv_sign hf h).1
    apply Classical.byContradiction
    intro y
    exact this.mp y rfl
  · refine .inr ⟨(wv_sign hf h).1.mpr z, c, e, none, ?_, ?_, ?_⟩
    · rw [absP_wv hf.b2 h.c0]
      exact num_part hf ⟨.inl rfl, h.e1, h.e2, h.c0, h.c1, h.c2⟩
    · have sgn := (wv_sign hf h).2
      have es : sgF (wv f.b s c e) = s := by
        unfold sgF
        have hs := h.s
        split
        · rename_i q
          exact (sgn.mp q).1.symm
        · rename_i q
          have : ¬ s = 1 := fun w => q (sgn.mpr ⟨w, z⟩)
          omega
      unfold finV upC
      have u : ¬ upB way (sgF (wv f.b s c e)) c none = true := by show ¬ (false = true); decide
      have l : ¬ f.hi < e := by have := h.e2; omega
      rw [if_neg u, if_neg l, es]
    · unfold finG upC
      have u : ¬ upB way (sgF (wv f.b s c e)) c none = true := by show ¬ (false = true); decide
      have l : ¬ f.hi < e := by have := h.e2; omega
      rw [if_neg u, if_neg l, if_neg (by simp)]
      exact (if_pos rfl).symm
end VI

/-! PL28: integers there and back (k11). -/
namespace VI
open PySem
end VI

/-! PL29: formats in formats (k13, k12). -/
namespace VI
open PySem
/-- a fraction from 0 on is the worth of a number -/
def HasN (o : Fm) (x : P2) : Prop := ∃ c e, NumOk o 0 c e ∧ (c : Rat) * bp o.b e = wo x
/-- the powers that power_of can make -/
def PK (b k : Int) : Prop := -27000 ≤ k ∧ (-1330 ≤ k ∨ Bd 8990 (b ^ (-k).toNat))
theorem PK.up {b : Int} (hb : 2 ≤ b) {k k' : Int} (h : PK b k) (e : k ≤ k') : PK b k' := by
  refine ⟨by have := h.1; omega, ?_⟩
  rcases h.2 with z | z
  · exact .inl (by omega)
  · exact .inr (bd_pow_le hb (by omega) z)
theorem Fb.powP {b : Int} (hb : 2 ≤ b) (h36 : b ≤ 36) {e : Int} {n : Nat} (he : e.natAbs ≤ n) : Fb (6 * n + 1) (powP b e) := by
  have bb : Bd 6 b := by unfold Bd; omega
  have one : Bd (6 * n + 1) (1 : Int) := Bd.up (k := 1) (by unfold Bd; decide) (by omega)
  refine ⟨(powP_can hb e).pos, ?_, ?_⟩
  · unfold VI.powP
    split
    · exact (bb.pow _).up (by omega)
    · exact one
  · unfold VI.powP
    split
    · exact one
    · exact (bb.pow _).up (by omega)
/-! ### turned there and back -/
/-- a NUMBER of one format that is a NUMBER of another one -/
theorem there {f o : Fm} (hf : FmOk f) (ho : FmOk o) {way : Str} {s c e : Int} (hn : NumOk f s c e) (h : HasN o (wv f.b 0 c e)) {w : Vl} {G : List Str} (t : TurnedTo f way o (.num s c e) w G) :
    G = [] ∧ ∃ k j, w = .num s k j ∧ NumOk o s k j ∧ wv o.b s k j = wv f.b s c e := by
  obtain ⟨k, j, hk, e1⟩ := h
  rw [wo_sg0 hf.b2] at e1
  have hs := hn.s
  have hk' : NumOk o s k j := hk.sign hs
  have ew : wv o.b s k j = wv f.b s c e := by
    refine wo_eq (wv_can ho.b2 ..) (wv_can hf.b2 ..) ?_
    rw [wo_wv ho.b2, wo_wv hf.b2]
    push_cast
    grind
  have q := round_self ho (way := way) hk'
  rw [ew] at q
  obtain ⟨rfl, rfl⟩ := round_uniq ho q t
  exact ⟨rfl, k, j, rfl, hk', ew⟩
theorem back {f o : Fm} (hf : FmOk f) (ho : FmOk o) {way : Str} {s c e k j : Int} (hn : NumOk f s c e) (ew : wv o.b s k j = wv f.b s c e) {w : Vl} {G : List Str} (t : TurnedTo o way f (.num s k j) w G) : w = .num s c e ∧ G = [] := by
  have q := round_self hf (way := way) hn
  rw [← ew] at q
  obtain ⟨rfl, rfl⟩ := round_uniq hf q t
  exact ⟨rfl, rfl⟩
structure Sm (f : Fm) : Prop where
  ok : FmOk f
  lo : -9 ≤ f.lo
  hi : f.hi ≤ 9
  p : f.p ≤ 9
end VI

/-! PL30: the lesser and the greater one (k24, k29, k31). -/
namespace VI
open PySem
theorem rk_inf {f : Fm} (hf : FmOk f) (s : Int) : 0 < f.X ∧ rkV f (.inf s) = if s = 1 then -f.X else f.X := by
  have := hf.XF
  have := hf.TF
  have := hf.F_pos
  have := hf.W_pos
  exact ⟨by omega, rfl⟩
theorem worth_rank {f : Fm} (hf : FmOk f) {s c e s' c' e' : Int} (hn : NumOk f s c e) (hn' : NumOk f s' c' e') :
    ((wv f.b s c e).1 * (wv f.b s' c' e').2 < (wv f.b s' c' e').1 * (wv f.b s c e).2 ↔ rkV f (.num s c e) < rkV f (.num s' c' e')) ∧ (wv f.b s c e = wv f.b s' c' e' ↔ rkV f (.num s c e) = rkV f (.num s' c' e')) := by
  have f1 := wv_fra hf hn
  have f2 := wv_fra hf hn'
  have a1 := wo_rank hf hn hn'
  have a2 := wo_rank hf hn' hn
  refine ⟨(below_iff f1.can f2.can).trans a1, ?_⟩
  constructor
  · intro z
    rw [z] at a1 a2
    have b1 := mt a1.mpr Rat.lt_irrefl
    have b2 := mt a2.mpr Rat.lt_irrefl
    omega
  · intro z
    refine wo_eq f1.can f2.can (Rat.le_antisymm ?_ ?_)
    · rw [← Rat.not_lt, a2]
      omega
    · rw [← Rat.not_lt, a1]
      omega
end VI

/-! PL31: when a format lies in another one (k12). -/
namespace VI
open PySem
end VI

/-! PL32: operations among themselves (k31). -/
namespace VI
open PySem
def ngP (x : P2) : P2 := (-x.1, x.2)
theorem wo_ng (x : P2) : wo (ngP x) = - wo x := by
  unfold wo ngP
  show ((-x.1 : Int) : Rat) / (x.2 : Rat) = -((x.1 : Rat) / (x.2 : Rat))
  rw [Rat.div_def, Rat.div_def]
  push_cast
  grind
theorem can_ng {x : P2} (h : Can x) : Can (ngP x) := can_neg h
theorem one_can : Can ((1, 1) : P2) := can_int 1
theorem wo11 : wo ((1, 1) : P2) = 1 := by
  unfold wo
  decide +kernel
structure LackAt (f : Fm) (S W : P2) (k j : Int) : Prop where
  num : NumOk f 0 k j
  eq : absP (subP S W) = wv f.b 0 k j
  den : Bd 8990 (S.2 * W.2)
end VI

/-! PL33: wider fractions: quotients of long ints. -/
namespace VI
open PySem
theorem quot_logk {k : Nat} (hk : k ≤ 4000) {N D c : Int} (hN : 0 ≤ N) (hD : 0 < D) (e : N.fdiv D = c) (hc : Bd k c) : N.natAbs.log2 ≤ D.natAbs.log2 + 4400 := by
  have h1 : N < (N / D + 1) * D := Int.lt_ediv_add_one_mul_self N hD
  rw [Int.fdiv_eq_ediv_of_nonneg _ (by omega)] at e
  rw [e] at h1
  have hc : c.natAbs < 2 ^ k := hc
  have h2 : D.natAbs < 2 ^ (D.natAbs.log2 + 1) := Nat.lt_log2_self
  by_cases n0 : N.natAbs = 0
  · rw [n0]
    exact Nat.zero_le _
  have h3 : N.natAbs < 2 ^ k * D.natAbs := by
    obtain ⟨P, hP⟩ : ∃ P : Nat, P = 2 ^ k := ⟨_, rfl⟩
    rw [← hP] at hc ⊢
    have : (c + 1) * D ≤ (P : Int) * D := Int.mul_le_mul_of_nonneg_right (by omega) (by omega)
    have e2 : ((P * D.natAbs : Nat) : Int) = P * D := by
      rw [Int.natCast_mul, show ((D.natAbs : Nat) : Int) = D by omega]
    omega
  have h4 : N.natAbs < 2 ^ (k + 1 + D.natAbs.log2) := by
    refine Nat.lt_of_lt_of_le h3 ?_
    rw [show k + 1 + D.natAbs.log2 = k + (D.natAbs.log2 + 1) by omega, Nat.pow_add]
    exact Nat.mul_le_mul_left _ (Nat.le_of_lt h2)
  have := (Nat.log2_lt n0).mpr h4
  omega
theorem quot_log {N D c : Int} (hN : 0 ≤ N) (hD : 0 < D) (e : N.fdiv D = c) (hc : Bd 640 c) : N.natAbs.log2 ≤ D.natAbs.log2 + 4400 := quot_logk (by decide) hN hD e hc
/-- long ints that may be reduced -/
def RedW (n d : Int) : Prop := d ≠ 0 ∧ ∃ K, Bd K n ∧ Bd K d ∧ K ≤ 13390
def RedOk (n d : Int) : Prop := (d ≠ 0 ∧ Bd 8990 d) ∨ RedW n d
theorem RedOk.left {n d : Int} (h : d ≠ 0 ∧ Bd 8990 d) : RedOk n d := .inl h
theorem RedOk.ne {n d : Int} (h : RedOk n d) : d ≠ 0 := h.elim (·.1) (·.1)
theorem RedOk.dv {n d g : Int} (h : RedOk n d) (hg : g.natAbs = Int.gcd n d) : (g ≠ 0 ∧ (g.natAbs.log2 < 9000 ∨ n.natAbs.log2 ≤ g.natAbs.log2 + 4400)) ∧ (g ≠ 0 ∧ (g.natAbs.log2 < 9000 ∨ d.natAbs.log2 ≤ g.natAbs.log2 + 4400)) := by
  have h0 := h.ne
  have g0 : g ≠ 0 := fun e => h0 (Int.gcd_eq_zero_iff.mp (by rw [← hg, e]; rfl)).2
  rcases h with ⟨_, hb⟩ | ⟨_, K, b1, b2, hK⟩
  · have b : Bd 8990 g := by
      have := hb.gcd (x := n) h0
      unfold Bd at this ⊢
      omega
    have := (b.divOk g0 (by decide)).2
    exact ⟨⟨g0, .inl this⟩, ⟨g0, .inl this⟩⟩
  · have l1 := b1.log
    have l2 := b2.log
    by_cases z : g.natAbs.log2 < 9000
    · exact ⟨⟨g0, .inl z⟩, ⟨g0, .inl z⟩⟩
    · exact ⟨⟨g0, .inr (by omega)⟩, ⟨g0, .inr (by omega)⟩⟩
theorem RedOk.sum {k l : Nat} {x y : P2} (hx : Fb k x) (hy : Fb l y) (h : k + l ≤ 13380 ∨ k + l ≤ 400000 ∧ Bd 8990 (x.2 * y.2)) :
    RedOk (x.1 * y.2 + y.1 * x.2) (x.2 * y.2) ∧ RedOk (x.1 * y.2 - y.1 * x.2) (x.2 * y.2) := by
  have ne := mul_ne hx.ne hy.ne
  rcases h with q | q
  · have b1 := hx.b1.mul hy.b2
    have b2 := (hy.b1.mul hx.b2).up (show l + k ≤ k + l by omega)
    have b3 := (hx.b2.mul hy.b2).up (show k + l ≤ k + l + 1 by omega)
    exact ⟨.inr ⟨ne, k + l + 1, (b1.add b2).up (by omega), b3, by omega⟩, .inr ⟨ne, k + l + 1, (b1.sub b2).up (by omega), b3, by omega⟩⟩
  · exact ⟨.inl ⟨ne, q.2⟩, .inl ⟨ne, q.2⟩⟩
theorem RedOk.less {k l : Nat} {x y : P2} (hx : Fb k x) (hy : Fb l y) (h : k + l ≤ 13380 ∨ k + l ≤ 400000 ∧ RedOk (x.1 * y.2 - y.1 * x.2) (x.2 * y.2)) : RedOk (x.1 * y.2 - y.1 * x.2) (x.2 * y.2) :=
  h.elim (fun q => (RedOk.sum hx hy (.inl q)).2) (·.2)
end VI

/-! PL34: bounds by the format (k20). -/
namespace VI
open PySem
structure FmB (f : Fm) (P U : Nat) : Prop where
  p : Bd P (f.b ^ f.p.toNat)
  l : Bd U (f.b ^ f.lo.natAbs)
  h : Bd U (f.b ^ f.hi.natAbs)
  p1 : 1 ≤ P
  u1 : 1 ≤ U
theorem bd_one {k : Nat} (h : 1 ≤ k) : Bd k (1 : Int) := Bd.up (k := 1) (by unfold Bd; decide) h
theorem fb_i {k : Nat} (h : 1 ≤ k) {c : Int} (hc : Bd k c) : Fb k (c, 1) := ⟨by show (0 : Int) < 1; decide, hc, bd_one h⟩
theorem FmB.raP {f : Fm} (hf : FmOk f) {P U : Nat} (h : FmB f P U) {e : Int} (h1 : f.lo ≤ e) (h2 : e ≤ f.hi) : Fra U (powP f.b e) := by
  have key : ∀ n : Nat, n ≤ e.natAbs → Bd U (f.b ^ n) := fun n hn => by
    by_cases z : e.natAbs ≤ f.lo.natAbs
    · exact bd_pow_le hf.b2 (by omega) h.l
    · exact bd_pow_le hf.b2 (show n ≤ f.hi.natAbs by omega) h.h
  have one := bd_one h.u1
  refine ⟨powP_can hf.b2 e, ?_, ?_⟩
  · unfold powP
    split
    · exact key _ (by omega)
    · exact one
  · unfold powP
    split
    · exact one
    · exact key _ (by omega)
theorem FmB.top {f : Fm} (hf : FmOk f) {P U : Nat} (h : FmB f P U) : Fra (P + U) (topP f) := by
  have W0 := hf.W_pos
  have F0 := hf.F_pos
  have TF := hf.TF
  have hp : Bd P f.T := h.p
  have h1 : Fb P (f.T - 1, 1) := fb_i h.p1 (hp.of_natAbs (by omega))
  exact h1.mul (h.raP hf hf.lh (Int.le_refl _)).fb
/-- what a part of itself adds -/
theorem add_mul {x y : P2} (hx : Can x) (hy : Can y) : addP x (mulP x y) = mulP x (addP (1, 1) y) := by
  refine wo_eq (can_add hx (can_mul hx hy)) (can_mul hx (can_add one_can hy)) ?_
  rw [wo_add hx (can_mul hx hy), wo_mul hx hy, wo_mul hx (can_add one_can hy), wo_add one_can hy, wo11]
  grind
end VI

/-! PL35: squares of fractions (k20). -/
namespace VI
open PySem
end VI

/-! PL36: spans by ranks, boxes (k71). -/
namespace VI
open PySem
def apart (f : Fm) : Sp → Int
  | .no => 0
  | .sp a b => rkV f b - rkV f a
def midV (f : Fm) : Sp → Option Vl
  | .no => none
  | .sp a b => if rkV f b - rkV f a < 2 then none else atV f ((rkV f a + rkV f b).fdiv 2)
def boxD (ss : List Sp) : D := .tuple (ss.map spD)
structure BoxOk (f : Fm) (ss : List Sp) : Prop where
  len : ss.length ≤ 3
  ok : ∀ s ∈ ss, SpanOk f s
def WidTo (f : Fm) (ss : List Sp) : Option Nat → Prop
  | none => ∀ s ∈ ss, apart f s < 2
  | some i => ∃ s, ss[i]? = some s ∧ 2 ≤ apart f s ∧ (∀ t ∈ ss, apart f t ≤ apart f s) ∧ ∀ (j : Nat) t, j < i → ss[j]? = some t → apart f t < apart f s
theorem wid_uniq {f : Fm} {ss : List Sp} {o o' : Option Nat} (h : WidTo f ss o) (h' : WidTo f ss o') : o = o' := by
  cases o with
  | none =>
    cases o' with
    | none => rfl
    | some i =>
      obtain ⟨s, a, b, _⟩ := h'
      have := h s (List.mem_of_getElem? a)
      omega
  | some i =>
    obtain ⟨s, a, b, c, d⟩ := h
    cases o' with
    | none =>
      have := h' s (List.mem_of_getElem? a)
      omega
    | some j =>
      obtain ⟨t, a', b', c', d'⟩ := h'
      have q1 := c t (List.mem_of_getElem? a')
      have q2 := c' s (List.mem_of_getElem? a)
      rcases Nat.lt_trichotomy i j with z | z | z
      · have := d' i s z a
        omega
      · rw [z]
      · have := d j t z a'
        omega
def partD (f : Fm) (ss : List Sp) (i : Nat) : Sp → D
  | .no => .none
  | .sp a b => match midV f (.sp a b) with
    | some m => .tuple [.tuple (((ss.take i ++ [Sp.sp a m]) ++ ss.drop (i + 1)).map spD), .tuple (((ss.take i ++ [Sp.sp m b]) ++ ss.drop (i + 1)).map spD)]
    | none => .none
theorem at_end {f : Fm} (hf : FmOk f) {r : Int} (h : (r.natAbs : Int) ≤ f.X) : ∃ v, atV f r = some v ∧ EndOk f v ∧ rkV f v = r ∧ ((r.natAbs : Int) < f.X → ∀ s, v ≠ .inf s) := by
  obtain ⟨v, e, ok, nn, rk⟩ := rk_at hf h
  refine ⟨v, e, ⟨ok, nn, ?_⟩, rk, fun hl s z => ?_⟩
  · have q := atV_rk hf ok nn
    rw [rk, e] at q
    by_cases z : r = 0
    · rw [if_pos z] at q
      cases q
      rfl
    · cases v with
      | nan => exact nn.elim
      | inf s => rfl
      | num s c e0 =>
        show (if c = 0 then Vl.num 0 c e0 else .num s c e0) = _
        by_cases y : c = 0
        · exfalso
          subst y
          have := zero_lo hf (show NumOk f s 0 e0 from ok)
          subst this
          have rk : (if s = 1 then -((f.lo - f.lo) * f.W + 0) else (f.lo - f.lo) * f.W + 0) = r := rk
          rw [Int.sub_self, Int.zero_mul] at rk
          apply z
          rw [← rk]
          split <;> rfl
        · rw [if_neg y]
  · subst z
    have rk : (if s = 1 then -f.X else f.X) = r := rk
    have X0 := (rk_inf hf s).1
    split at rk <;> omega
end VI

/-! PL37: sums of many values (k48). -/
namespace VI
open PySem
/-- a fraction that is a count of one power -/
structure MulAt (b E : Int) (B n : Nat) (x : P2) : Prop where
  can : Can x
  z : ∃ Z : Int, wo x = (Z : Rat) * bp b E ∧ Z.natAbs ≤ n * B
theorem MulAt.zero {b E : Int} {B : Nat} : MulAt b E B 0 (0, 1) := ⟨can01, 0, by rw [wo01]; simp, by simp⟩
theorem MulAt.add {b E : Int} {B n m : Nat} {x y : P2} (h : MulAt b E B n x) (h' : MulAt b E B m y) : MulAt b E B (n + m) (addP x y) := by
  obtain ⟨Z, e, l⟩ := h.z
  obtain ⟨Z', e', l'⟩ := h'.z
  refine ⟨can_add h.can h'.can, Z + Z', ?_, ?_⟩
  · rw [wo_add h.can h'.can, e, e']
    push_cast
    grind
  · rw [Nat.add_mul]
    omega
theorem MulAt.up {b E : Int} {B n m : Nat} {x : P2} (h : MulAt b E B n x) (e : n ≤ m) : MulAt b E B m x := by
  obtain ⟨Z, e', l⟩ := h.z
  exact ⟨h.can, Z, e', Nat.le_trans l (Nat.mul_le_mul_right _ e)⟩
/-- the greatest count of a format -/
def Fm.B (f : Fm) : Nat := (f.T * f.b ^ (f.hi - f.lo).toNat).natAbs
/-- a format whose sums can be told -/
structure NBd (f : Fm) : Prop where
  ok : FmOk f
  W : WvB f 2100
  B : f.B < 2 ^ 2610
  U : Bd 1400 (f.b ^ f.lo.natAbs)
end VI

/-! PL38: terms, sums of products (k49). -/
namespace VI
open PySem
inductive Tm where
  | nan
  | inf (s : Int)
  | fr (p : P2) (s : Int)
def tmSg : Tm → Int
  | .nan => 0
  | .inf s => s
  | .fr _ s => s
def infsT (ts : List Tm) : List Int := ts.filterMap fun
  | .inf s => some s
  | _ => none
def signsT (ts : List Tm) : List Int := ts.map tmSg
def fracT (ts : List Tm) : List P2 := ts.filterMap fun
  | .fr p _ => some p
  | _ => none
/-- a list of terms that law_summed takes -/
structure TmsOk (f : Fm) (ts : List Tm) : Prop where
  len : ts.length ≤ 60
  i01 : ∀ i ∈ infsT ts, i = 0 ∨ i = 1
  s01 : ∀ s ∈ signsT ts, s = 0 ∨ s = 1
  each : ∀ p ∈ fracT ts, Fra 4200 p
  part : ∀ i, i ≤ (fracT ts).length → Fra 9180 (totP ((fracT ts).take i))
end VI

/-! PL39: dot products in parts; the basic operations as sums of terms; opposites (k49). -/
namespace VI
open PySem
def dV : Vl × Vl → Bool
  | (.num _ _ _, .num _ _ _) => true
  | (x, y) => !zerV x && !zerV y
theorem fm_congr {α β : Type} {f g : α → Option β} : ∀ {l : List α}, (∀ a ∈ l, f a = g a) → l.filterMap f = l.filterMap g
  | [], _ => rfl
  | a :: r, h => by
    rw [List.filterMap_cons, List.filterMap_cons, h a (by simp), fm_congr fun b hb => h b (by simp [hb])]
end VI

/-! PL40: operations over spans, by their ends (k65). -/
namespace VI
open PySem
def plE : Ew → Int
  | .inf s => if s = 0 then 1 else -1
  | .fr _ => 0
def ltE : Ew → Ew → Bool
  | .fr x, .fr y => decide (x.1 * y.2 < y.1 * x.2)
  | x, y => decide (plE x < plE y)
def loE (m : Ew) (l : List Ew) : Ew := l.foldl (fun m e => if ltE e m = true then e else m) m
def hiE (m : Ew) (l : List Ew) : Ew := l.foldl (fun m e => if ltE m e = true then e else m) m
theorem loE_cons (m e : Ew) (l : List Ew) : loE m (e :: l) = loE (if ltE e m = true then e else m) l := rfl
theorem hiE_cons (m e : Ew) (l : List Ew) : hiE m (e :: l) = hiE (if ltE m e = true then e else m) l := rfl
theorem loE_mem : ∀ (l : List Ew) (m : Ew), loE m l ∈ m :: l
  | [], m => by simp [loE]
  | e :: l, m => by
    rw [loE_cons]
    split
    · have := loE_mem l e
      simp only [List.mem_cons] at this ⊢
      rcases this with h | h
      · exact .inr (.inl h)
      · exact .inr (.inr h)
    · have := loE_mem l m
      simp only [List.mem_cons] at this ⊢
      rcases this with h | h
      · exact .inl h
      · exact .inr (.inr h)
theorem hiE_mem : ∀ (l : List Ew) (m : Ew), hiE m l ∈ m :: l
  | [], m => by simp [hiE]
  | e :: l, m => by
    rw [hiE_cons]
    split
    · have := hiE_mem l e
      simp only [List.mem_cons] at this ⊢
      rcases this with h | h
      · exact .inr (.inl h)
      · exact .inr (.inr h)
    · have := hiE_mem l m
      simp only [List.mem_cons] at this ⊢
      rcases this with h | h
      · exact .inl h
      · exact .inr (.inr h)
theorem lo_top : ∀ (l : List Ew) (m : Ew), (∀ e ∈ l, ∀ K, e = .inf K → K = 0 ∨ K = 1) → loE m l = .inf 0 → m = .inf 0 ∧ ∀ e ∈ l, e = .inf 0
  | [], m, _, h => ⟨h, fun e he => by cases he⟩
  | e :: l, m, h01, h => by
    rw [loE_cons] at h
    obtain ⟨a, b⟩ := lo_top l _ (fun e he => h01 e (by simp [he])) h
    have ne : ∀ e m : Ew, m = .inf 0 → ltE e m = false → (∀ K, e = .inf K → K = 0 ∨ K = 1) → e = .inf 0 := fun e m hm hl h01 => by
      subst hm
      cases e with
      | inf s =>
        rcases h01 s rfl with rfl | rfl
        · rfl
        · exact absurd hl (by decide)
      | fr x => exact absurd hl (show ¬ decide ((0 : Int) < 1) = false by decide)
    by_cases q : ltE e m = true
    · rw [if_pos q] at a
      subst a
      have : ltE (.inf 0) m = false := by
        cases m with
        | inf s => exact decide_eq_false (by show ¬ (1 : Int) < if s = 0 then 1 else -1; split <;> omega)
        | fr x => exact decide_eq_false (by show ¬ (1 : Int) < 0; omega)
      rw [this] at q
      cases q
    · rw [if_neg q] at a
      have e0 := ne e m a (by simpa using q) (h01 e (by simp))
      exact ⟨a, fun e' he => by
        rcases List.mem_cons.mp he with rfl | h'
        · exact e0
        · exact b e' h'⟩
theorem hi_low : ∀ (l : List Ew) (m : Ew), (∀ e ∈ l, ∀ K, e = .inf K → K = 0 ∨ K = 1) → hiE m l = .inf 1 → m = .inf 1 ∧ ∀ e ∈ l, e = .inf 1
  | [], m, _, h => ⟨h, fun e he => by cases he⟩
  | e :: l, m, h01, h => by
    rw [hiE_cons] at h
    obtain ⟨a, b⟩ := hi_low l _ (fun e he => h01 e (by simp [he])) h
    have ne : ∀ e m : Ew, m = .inf 1 → ltE m e = false → (∀ K, e = .inf K → K = 0 ∨ K = 1) → e = .inf 1 := fun e m hm hl h01 => by
      subst hm
      cases e with
      | inf s =>
        rcases h01 s rfl with rfl | rfl
        · exact absurd hl (by decide)
        · rfl
      | fr x => exact absurd hl (show ¬ decide ((-1 : Int) < 0) = false by decide)
    by_cases q : ltE m e = true
    · rw [if_pos q] at a
      subst a
      have : ltE m (.inf 1) = false := by
        cases m with
        | inf s => exact decide_eq_false (by show ¬ (if s = 0 then (1 : Int) else -1) < -1; split <;> omega)
        | fr x => exact decide_eq_false (by show ¬ (0 : Int) < -1; omega)
      rw [this] at q
      cases q
    · rw [if_neg q] at a
      have e0 := ne e m a (by simpa using q) (h01 e (by simp))
      exact ⟨a, fun e' he => by
        rcases List.mem_cons.mp he with rfl | h'
        · exact e0
        · exact b e' h'⟩
/-! ### operations -/
def numE : Ew → Int
  | .inf s => if s = 0 then 1 else -1
  | .fr x => x.1
def addE : Ew → Ew → Ew
  | .inf s, _ => .inf s
  | .fr _, .inf t => .inf t
  | .fr x, .fr y => .fr (addP x y)
def negE : Ew → Ew
  | .inf s => .inf (1 - s)
  | .fr x => .fr (ngP x)
def mulE (x y : Ew) : Ew := if numE x = 0 ∨ numE y = 0 then .fr (0, 1) else match x, y with
  | .fr a, .fr b => .fr (mulP a b)
  | x, y => if (0 < numE x ↔ 0 < numE y) then .inf 0 else .inf 1
def prds (p q : Ew × Ew) : List Ew := [mulE p.1 q.2, mulE p.2 q.1, mulE p.2 q.2]
def prdE (p q : Ew × Ew) : Ew × Ew := (loE (mulE p.1 q.1) (prds p q), hiE (mulE p.1 q.1) (prds p q))
def sizE (p : Ew × Ew) : Ew × Ew := (hiE p.1 [negE p.2, .fr (0, 1)], hiE p.2 [negE p.1])
def opE (word : Str) : List (Ew × Ew) → Ew × Ew
  | [a] => if word = "opposite" then (negE a.2, negE a.1) else sizE a
  | [a, b] => if word = "add" then (addE a.1 b.1, addE a.2 b.2) else if word = "take" then (addE a.1 (negE b.2), addE a.2 (negE b.1)) else if word = "times" then prdE a b else if word = "least" then (loE a.1 [b.1], loE a.2 [b.2]) else (hiE a.1 [b.1], hiE a.2 [b.2])
  | [a, b, c] => (addE (prdE a b).1 c.1, addE (prdE a b).2 c.2)
  | _ => (.inf 0, .inf 0)
def OpIs (word : Str) (n : Nat) : Prop := (n = 1 ∧ (word = "opposite" ∨ word = "size")) ∨ (n = 2 ∧ (word = "add" ∨ word = "take" ∨ word = "times" ∨ word = "least" ∨ word = "greatest")) ∨ (n = 3 ∧ word = "fused")
theorem EwOk.up {K L : Nat} {e : Ew} (h : EwOk K e) (l : K ≤ L) : EwOk L e := by
  cases e with
  | inf s => exact h
  | fr x => exact Fra.up h l
theorem EwOk.i01 {K : Nat} {e : Ew} (h : EwOk K e) : ∀ s, e = .inf s → s = 0 ∨ s = 1 := fun s q => by
  subst q
  exact h
theorem fra0 : Fra 1 (0, 1) := Fra.int (k := 0) (by show (0 : Int).natAbs < _; decide)
theorem ew_neg {K : Nat} {e : Ew} (h : EwOk K e) : EwOk K (negE e) := by
  cases e with
  | inf s =>
    have h : s = 0 ∨ s = 1 := h
    show 1 - s = 0 ∨ 1 - s = 1
    omega
  | fr x => exact Fra.neg h
theorem ew_mul {K L : Nat} {x y : Ew} (h : EwOk K x) (h' : EwOk L y) (h1 : 1 ≤ K + L) : EwOk (K + L) (mulE x y) := by
  unfold mulE
  split
  · exact fra0.up h1
  · split
    · exact (Fra.fb h).mul (Fra.fb h')
    · split
      · exact .inl rfl
      · exact .inr rfl
theorem ew_lo {K : Nat} {m : Ew} {l : List Ew} (h : EwOk K m) (h' : ∀ e ∈ l, EwOk K e) : EwOk K (loE m l) := by
  rcases List.mem_cons.mp (loE_mem l m) with q | q
  · rw [q]; exact h
  · exact h' _ q
theorem ew_hi {K : Nat} {m : Ew} {l : List Ew} (h : EwOk K m) (h' : ∀ e ∈ l, EwOk K e) : EwOk K (hiE m l) := by
  rcases List.mem_cons.mp (hiE_mem l m) with q | q
  · rw [q]; exact h
  · exact h' _ q
/-- the ends of a span -/
structure Row (K : Nat) (p : Ew × Ew) : Prop where
  a : EwOk K p.1
  b : EwOk K p.2
  na : p.1 ≠ .inf 0
  nb : p.2 ≠ .inf 1
theorem Row.up {K L : Nat} {p : Ew × Ew} (h : Row K p) (l : K ≤ L) : Row L p := ⟨h.a.up l, h.b.up l, h.na, h.nb⟩
theorem neg_inf {e : Ew} {s : Int} (h : negE e = .inf s) : e = .inf (1 - s) := by
  cases e with
  | inf t =>
    have h : Ew.inf (1 - t) = .inf s := h
    cases h
    congr 1
    omega
  | fr x => cases h
theorem num_inf0 {K : Nat} {e : Ew} (h : EwOk K e) (n : e ≠ .inf 0) (p : 0 < numE e) : ∃ x, e = .fr x := by
  cases e with
  | inf s =>
    rcases h with rfl | rfl
    · exact absurd rfl n
    · exact absurd p (by decide)
  | fr x => exact ⟨x, rfl⟩
theorem num_inf1 {K : Nat} {e : Ew} (h : EwOk K e) (n : e ≠ .inf 1) (p : numE e < 0) : ∃ x, e = .fr x := by
  cases e with
  | inf s =>
    rcases h with rfl | rfl
    · exact absurd p (by decide)
    · exact absurd rfl n
  | fr x => exact ⟨x, rfl⟩
theorem mul_inf {x y : Ew} {s : Int} (h : mulE x y = .inf s) : numE x ≠ 0 ∧ numE y ≠ 0 ∧ ((0 < numE x ↔ 0 < numE y) ↔ s = 0) ∧ ¬ ((∃ a, x = .fr a) ∧ ∃ b, y = .fr b) := by
  unfold mulE at h
  split at h
  · cases h
  · rename_i z
    refine ⟨fun q => z (.inl q), fun q => z (.inr q), ?_⟩
    split at h
    · cases h
    · rename_i k
      refine ⟨?_, fun ⟨⟨a, ha⟩, ⟨b, hb⟩⟩ => k a b ha hb⟩
      split at h
      · rename_i c
        cases h
        exact ⟨fun _ => rfl, fun _ => c⟩
      · rename_i c
        cases h
        exact ⟨fun q => absurd q c, fun q => absurd q (by decide)⟩
theorem row_prd {K L : Nat} {p q : Ew × Ew} (h : Row K p) (h' : Row L q) (h1 : 1 ≤ K + L) : Row (K + L) (prdE p q) := by
  obtain ⟨a, b⟩ := p
  obtain ⟨c, d⟩ := q
  have m1 : EwOk (K + L) (mulE a c) := ew_mul h.a h'.a h1
  have m2 : EwOk (K + L) (mulE a d) := ew_mul h.a h'.b h1
  have m3 : EwOk (K + L) (mulE b c) := ew_mul h.b h'.a h1
  have m4 : EwOk (K + L) (mulE b d) := ew_mul h.b h'.b h1
  have ml : ∀ e ∈ [mulE a d, mulE b c, mulE b d], EwOk (K + L) e := fun e he => by
    simp only [List.mem_cons, List.not_mem_nil, or_false] at he
    rcases he with rfl | rfl | rfl
    · exact m2
    · exact m3
    · exact m4
  refine ⟨ew_lo m1 ml, ew_hi m1 ml, fun z => ?_, fun z => ?_⟩
  · obtain ⟨z1, z2⟩ := lo_top _ _ (fun e he => (ml e he).i01) z
    obtain ⟨n1, n2, s1, k1⟩ := mul_inf z1
    obtain ⟨_, n4, s2, k2⟩ := mul_inf (z2 (mulE a d) (by simp [prds]))
    obtain ⟨n3, _, s3, k3⟩ := mul_inf (z2 (mulE b c) (by simp [prds]))
    obtain ⟨_, _, s4, k4⟩ := mul_inf (z2 (mulE b d) (by simp [prds]))
    have s1 := s1.mpr rfl
    have s2 := s2.mpr rfl
    have s3 := s3.mpr rfl
    have s4 := s4.mpr rfl
    by_cases pa : 0 < numE a
    · exact k1 ⟨num_inf0 h.a h.na pa, num_inf0 h'.a h'.na (s1.mp pa)⟩
    · have nd : ¬ 0 < numE d := fun q => pa (s2.mpr q)
      have nb : ¬ 0 < numE b := fun q => nd (s4.mp q)
      exact k4 ⟨num_inf1 h.b h.nb (by omega), num_inf1 h'.b h'.nb (by omega)⟩
  · obtain ⟨z1, z2⟩ := hi_low _ _ (fun e he => (ml e he).i01) z
    obtain ⟨n1, n2, s1, k1⟩ := mul_inf z1
    obtain ⟨_, n4, s2, k2⟩ := mul_inf (z2 (mulE a d) (by simp [prds]))
    obtain ⟨n3, _, s3, k3⟩ := mul_inf (z2 (mulE b c) (by simp [prds]))
    obtain ⟨_, _, s4, k4⟩ := mul_inf (z2 (mulE b d) (by simp [prds]))
    have t : ¬ (1 : Int) = 0 := by decide
    have s1 := fun q => t (s1.mp q)
    have s2 := fun q => t (s2.mp q)
    have s3 := fun q => t (s3.mp q)
    have s4 := fun q => t (s4.mp q)
    by_cases pa : 0 < numE a
    · have nd : ¬ 0 < numE d := fun q => s2 ⟨fun _ => q, fun _ => pa⟩
      exact k2 ⟨num_inf0 h.a h.na pa, num_inf1 h'.b h'.nb (by omega)⟩
    · have pc : 0 < numE c := Classical.byContradiction fun q => s1 ⟨fun r => absurd r pa, fun r => absurd r q⟩
      have nb : ¬ 0 < numE b := fun q => s3 ⟨fun _ => pc, fun _ => q⟩
      exact k3 ⟨num_inf1 h.b h.nb (by omega), num_inf0 h'.a h'.na pc⟩
theorem lt_wo {x y : P2} (hx : Can x) (hy : Can y) : (ltE (.fr x) (.fr y) = true) ↔ wo x < wo y := by
  show decide _ = true ↔ _
  rw [decide_eq_true_eq]
  exact below_iff hx hy
theorem num_neg {x : P2} (hx : Can x) : x.1 < 0 ↔ wo x < 0 := by
  have := below_iff hx can01
  rw [wo01, Int.mul_one, Int.zero_mul] at this
  exact this
theorem num_pos {x : P2} (hx : Can x) : 0 < x.1 ↔ 0 < wo x := by
  have := below_iff can01 hx
  rw [wo01, Int.mul_one, Int.zero_mul] at this
  exact this
/-! ### spans in order -/
def SpOrd (f : Fm) : Sp → Prop
  | .no => True
  | .sp a b => ltE (endE f b) (endE f a) = false
theorem end_ok {f : Fm} (hf : FmOk f) {v : Vl} (h : VlOk f v) : EwOk 3200 (endE f v) := by
  cases v with
  | num s c e => exact wv_fra hf h
  | inf s => exact h
  | nan => exact .inl rfl
theorem mul_if (s : Int) (y : P2) : mulE (.inf s) (.fr y) = if y.1 = 0 then .fr (0, 1) else if 0 < y.1 then (if s = 0 then .inf 0 else .inf 1) else (if s = 0 then .inf 1 else .inf 0) := by
  have n : ¬ numE (.inf s) = 0 := by
    show ¬ (if s = 0 then (1 : Int) else -1) = 0
    split <;> decide
  by_cases z : y.1 = 0
  · rw [if_pos z]
    exact if_pos (.inr z)
  · rw [if_neg z]
    unfold mulE
    rw [if_neg (fun q => q.elim n z)]
    show (if ((0 < if s = 0 then (1 : Int) else -1) ↔ 0 < y.1) then Ew.inf 0 else .inf 1) = _
    by_cases p : 0 < y.1 <;> by_cases q : s = 0 <;> simp [p, q]
theorem mul_fi (x : P2) (t : Int) : mulE (.fr x) (.inf t) = if x.1 = 0 then .fr (0, 1) else if 0 < x.1 then (if t = 0 then .inf 0 else .inf 1) else (if t = 0 then .inf 1 else .inf 0) := by
  have n : ¬ numE (.inf t) = 0 := by
    show ¬ (if t = 0 then (1 : Int) else -1) = 0
    split <;> decide
  by_cases z : x.1 = 0
  · rw [if_pos z]
    exact if_pos (.inl z)
  · rw [if_neg z]
    unfold mulE
    rw [if_neg (fun q => q.elim z n)]
    show (if (0 < x.1 ↔ (0 < if t = 0 then (1 : Int) else -1)) then Ew.inf 0 else .inf 1) = _
    by_cases p : 0 < x.1 <;> by_cases q : t = 0 <;> simp [p, q]
theorem mul_ff (x y : P2) : mulE (.fr x) (.fr y) = if x.1 = 0 ∨ y.1 = 0 then .fr (0, 1) else .fr (mulP x y) := rfl
end VI

/-! PL41: quotients over spans (k66). -/
namespace VI
open PySem
end VI

/-! PL42: quotients over spans, in two ways (k66). -/
namespace VI
open PySem
def four (p r : Ew × Ew) : List Ew := mulE p.1 r.1 :: prds p r
/-! ### the two sets -/
theorem num_neg0 {K : Nat} {e : Ew} (h : EwOk K e) : numE (negE e) = - numE e := by
  cases e with
  | inf s => rcases h with rfl | rfl <;> rfl
  | fr x => rfl
theorem neg_neg {e : Ew} : negE (negE e) = e := by
  cases e with
  | inf s =>
    show Ew.inf (1 - (1 - s)) = .inf s
    congr 1
    omega
  | fr x =>
    show Ew.fr (- -x.1, x.2) = .fr x
    rw [Int.neg_neg]
end VI

/-! PL43: roots over spans (k66). -/
namespace VI
open PySem
end VI

/-! PL44: the results over spans, all words (k66). -/
namespace VI
open PySem
def WordOk (word : Str) (n : Nat) : Prop := OpIs word n ∨ (n = 1 ∧ word = "root") ∨ (n = 2 ∧ word = "by")
end VI

/-! PL45: the law's side of roots over spans; hulls in order (k66). -/
namespace VI
open PySem
theorem ltB_ltE {f : Fm} (hf : FmOk f) {x y : Vl} (hx : EndOk f x) (hy : EndOk f y) : ltB f x y = ltE (endE f x) (endE f y) := by
  have nx := hx.nn
  have ny := hy.nn
  have X0 : 0 < f.X := by
    have l := rk_lt hf (show NumOk f 0 0 f.lo from zeroOk hf)
    omega
  cases x with
  | nan => exact nx.elim
  | inf s =>
    have hs : s = 0 ∨ s = 1 := hx.ok
    cases y with
    | nan => exact ny.elim
    | inf t =>
      have ht : t = 0 ∨ t = 1 := hy.ok
      refine decide_eq_decide.mpr ?_
      show (if s = 1 then -f.X else f.X) < (if t = 1 then -f.X else f.X) ↔ (if s = 0 then (1 : Int) else -1) < (if t = 0 then 1 else -1)
      rcases hs with rfl | rfl <;> rcases ht with rfl | rfl <;> simp <;> omega
    | num t c e =>
      have l := rk_lt hf (show NumOk f t c e from hy.ok)
      refine decide_eq_decide.mpr ?_
      show (if s = 1 then -f.X else f.X) < rkV f (.num t c e) ↔ (if s = 0 then (1 : Int) else -1) < 0
      generalize rkV f (.num t c e) = r at *
      rcases hs with rfl | rfl <;> simp <;> omega
  | num s c e =>
    cases y with
    | nan => exact ny.elim
    | inf t =>
      have ht : t = 0 ∨ t = 1 := hy.ok
      have l := rk_lt hf (show NumOk f s c e from hx.ok)
      refine decide_eq_decide.mpr ?_
      show rkV f (.num s c e) < (if t = 1 then -f.X else f.X) ↔ 0 < (if t = 0 then (1 : Int) else -1)
      generalize rkV f (.num s c e) = r at *
      rcases ht with rfl | rfl <;> simp <;> omega
    | num t c' e' => exact decide_eq_decide.mpr (worth_rank hf (show NumOk f s c e from hx.ok) (show NumOk f t c' e' from hy.ok)).1.symm
end VI

/-! PL46: what lies within spans; operations over them hold the results (k67, k69). -/
namespace VI
open PySem
def LoB : Ew → Rat → Prop
  | .inf s, _ => s ≠ 0
  | .fr y, q => wo y ≤ q
def HiB : Ew → Rat → Prop
  | .inf s, _ => s = 0
  | .fr y, q => q ≤ wo y
/-! ### products -/
theorem mul_fr {x y : P2} (hx : Can x) (hy : Can y) : ∃ z, mulE (.fr x) (.fr y) = .fr z ∧ Can z ∧ wo z = wo x * wo y := by
  rw [mul_ff]
  split
  · rename_i h
    refine ⟨(0, 1), rfl, can01, ?_⟩
    have z : ∀ {u : P2}, u.1 = 0 → wo u = 0 := fun {u} e => by
      unfold wo
      rw [e, Rat.div_def]
      simp
    rcases h with q | q
    · rw [z q, wo01, Rat.zero_mul]
    · rw [z q, wo01, Rat.mul_zero]
  · exact ⟨mulP x y, rfl, can_mul hx hy, wo_mul hx hy⟩
theorem neg_mul {K : Nat} {u e : Ew} (hu : EwOk K u) (he : EwOk K e) : mulE (negE u) e = negE (mulE u e) := by
  cases u with
  | inf s =>
    rcases (show s = 0 ∨ s = 1 from hu) with rfl | rfl
    · cases e with
      | inf t => rcases (show t = 0 ∨ t = 1 from he) with rfl | rfl <;> rfl
      | fr y =>
        show mulE (.inf 1) (.fr y) = _
        rw [mul_if, mul_if]
        split
        · rfl
        · split <;> rfl
    · cases e with
      | inf t => rcases (show t = 0 ∨ t = 1 from he) with rfl | rfl <;> rfl
      | fr y =>
        show mulE (.inf 0) (.fr y) = _
        rw [mul_if, mul_if]
        split
        · rfl
        · split <;> rfl
  | fr x =>
    cases e with
    | inf t =>
      show mulE (.fr (ngP x)) (.inf t) = _
      rw [mul_fi, mul_fi]
      have e1 : (ngP x).1 = - x.1 := rfl
      rw [e1]
      by_cases z : x.1 = 0
      · rw [if_pos z, if_pos (by omega)]
        rfl
      · rw [if_neg z, if_neg (by omega)]
        rcases (show t = 0 ∨ t = 1 from he) with rfl | rfl <;> by_cases p : 0 < x.1
        · rw [if_pos p, if_neg (by omega)]; rfl
        · rw [if_neg p, if_pos (by omega)]; rfl
        · rw [if_pos p, if_neg (by omega)]; rfl
        · rw [if_neg p, if_pos (by omega)]; rfl
    | fr y =>
      have cx := Fra.can hu
      have cy := Fra.can he
      obtain ⟨z, e1, c1, w1⟩ := mul_fr (can_ng cx) cy
      obtain ⟨z', e2, c2, w2⟩ := mul_fr cx cy
      show mulE (.fr (ngP x)) (.fr y) = _
      rw [e1, e2]
      show _ = Ew.fr (ngP z')
      rw [wo_eq c1 (can_ng c2) (by rw [w1, wo_ng, wo_ng, w2]; grind)]
theorem rat_pos {x : P2} (hx : Can x) : (0 ≤ x.1 ↔ 0 ≤ wo x) ∧ (x.1 = 0 ↔ wo x = 0) := by
  have a := num_neg hx
  have b := num_pos hx
  constructor
  · rw [← Int.not_lt, a, Rat.not_lt]
  · constructor
    · intro h
      have h1 : ¬ wo x < 0 := fun q => by have := a.mpr q; omega
      have h2 : ¬ 0 < wo x := fun q => by have := b.mpr q; omega
      grind
    · intro h
      have h1 : ¬ x.1 < 0 := fun q => by have := a.mp q; rw [h] at this; exact absurd this Rat.lt_irrefl
      have h2 : ¬ 0 < x.1 := fun q => by have := b.mp q; rw [h] at this; exact absurd this Rat.lt_irrefl
      omega
theorem mul_le_r {a b c : Rat} (h : a ≤ b) (hc : 0 ≤ c) : a * c ≤ b * c := Rat.mul_le_mul_of_nonneg_right h hc
end VI

/-! PL47: steps of programs, their true worths (k67, k69). -/
namespace VI
open PySem
inductive Stp where
  | inp (i : Nat)
  | told (x : P2)
  | op (w : Str) (is : List Nat)
/-- words and how many parts each has; never a root -/
def PlnIs (w : Str) (n : Nat) : Prop := OpIs w n ∨ (n = 2 ∧ w = "by") ∨ (n = 4 ∧ w = "if")
def StOk (st : Stp) (nf ni : Nat) : Prop := match st with
  | .inp i => i < ni
  | .told _ => True
  | .op w is => PlnIs w is.length ∧ ∀ i ∈ is, i < nf
/-- products and quotients -/
def prB (w : Str) : Bool := decide (w = "times") || decide (w = "by") || decide (w = "fused")
theorem atI_nat {α : Type} {xs : List α} {i : Nat} {x : α} (h : xs[i]? = some x) : L2.atI xs (i : Nat) = some x := by
  have hl := (List.getElem?_eq_some_iff.mp h).1
  unfold L2.atI L2.ixN
  rw [if_pos (by omega), if_pos (by omega)]
  show xs[((i : Nat) : Int).toNat]? = some x
  rw [Int.toNat_natCast]
  exact h
end VI

/-! PL48: numbers by ranks; points within spans (k67, k69). -/
namespace VI
open PySem
theorem FmB.ew {f : Fm} (hf : FmOk f) {P U : Nat} (h : FmB f P U) {v : Vl} (hv : VlOk f v) : EwOk (P + U) (endE f v) := by
  cases v with
  | nan => exact .inl rfl
  | inf s => exact hv
  | num s c e =>
    have hn : NumOk f s c e := hv
    have c0 := hn.c0
    have c1 := hn.c1
    have c1 : c < f.b ^ f.p.toNat := c1
    have bc : Bd P c := h.p.of_natAbs (by omega)
    have m : Fra (P + U) (mulP (c, 1) (powP f.b e)) := (fb_i h.p1 bc).mul (h.raP hf hn.e1 hn.e2).fb
    show Fra (P + U) (wv f.b s c e)
    unfold wv
    split
    · exact m.neg
    · exact m
theorem LoB.up {e : Ew} {q t : Rat} (h : LoB e q) (l : q ≤ t) : LoB e t := by
  cases e with
  | inf s => exact h
  | fr y => exact Rat.le_trans (show wo y ≤ q from h) l
theorem HiB.dn {e : Ew} {q t : Rat} (h : HiB e q) (l : t ≤ q) : HiB e t := by
  cases e with
  | inf s => exact h
  | fr y => exact Rat.le_trans l (show q ≤ wo y from h)
end VI

/-! PL49: the results of all choices and the ends of the spans (k67). -/
namespace VI
open PySem
theorem sub_eq {a b : P2} (ha : Can a) (hb : Can b) : addP a (ngP b) = subP a b := wo_eq (can_add ha (can_ng hb)) (can_sub ha hb) (by rw [wo_add ha (can_ng hb), wo_sub ha hb, wo_ng]; grind)
end VI

/-! PL50: the least span round ends is a span (k67). -/
namespace VI
open PySem
end VI

/-! PL51: what programs tell over boxes, their true worths; the spans hold these (k69). -/
namespace VI
open PySem
end VI

/-! PL52: the spans of programs hold their true worths (k69). -/
namespace VI
open PySem
def TldOk : Stp → Prop
  | .told x => Fra 14 x
  | _ => True
end VI

/-! PL53: how great the true worths of programs can be (k69). -/
namespace VI
open PySem
structure CmS (D : Int) (d n : Nat) : Prop where
  pos : 0 < D
  lt : D.natAbs < 2 ^ d
  le : d + 10 ≤ n
  dv : ∃ m : Int, D = 840 * m
/-- a worth over a common part -/
def Cm (D : Int) (n : Nat) (x : P2) : Prop := Can x ∧ ∃ a : Int, wo x * (D : Rat) = (a : Rat) ∧ a.natAbs < 2 ^ n
theorem p2_le {a b : Nat} (h : a ≤ b) : 2 ^ a ≤ 2 ^ b := Nat.pow_le_pow_right (by decide) h
theorem Cm.up {D : Int} {n m : Nat} {x : P2} (h : Cm D n x) (l : n ≤ m) : Cm D m x := by
  obtain ⟨c, a, e, b⟩ := h
  exact ⟨c, a, e, Nat.lt_of_lt_of_le b (p2_le l)⟩
/-- a told fraction -/
def TldB : Stp → Prop
  | .told x => Fra 14 x ∧ ∃ a : Int, wo x * ((840 : Int) : Rat) = (a : Rat) ∧ a.natAbs ≤ 840000
  | _ => True
theorem TldB.ok {st : Stp} (h : TldB st) : TldOk st := by
  cases st with
  | told x => exact h.1
  | inp i => trivial
  | op w js => trivial
def isPr : Stp → Bool
  | .op w _ => prB w
  | _ => false
structure CmW (W : List (Option P2)) (ins : List P2) (D : Int) (d n : Nat) : Prop where
  s : CmS D d n
  w : ∀ x, some x ∈ W → Cm D n x
  i : ∀ x ∈ ins, Cm D n x
theorem CmW.more {W : List (Option P2)} {ins : List P2} {D : Int} {d n : Nat} (h : CmW W ins D d n) {v : Option P2} {m : Nat} (l : n ≤ m) (hv : ∀ x, v = some x → Cm D m x) : CmW (W ++ [v]) ins D d m := by
  refine ⟨⟨h.s.pos, h.s.lt, by have := h.s.le; omega, h.s.dv⟩, fun x hx => ?_, fun x hx => (h.i x hx).up l⟩
  rcases List.mem_append.mp hx with q | q
  · exact (h.w x q).up l
  · exact hv x (List.mem_singleton.mp q).symm
def prN (l : List Stp) : Nat := (l.filter isPr).length
/-! ### inputs -/
def IntX (f : Fm) (x : P2) : Prop := ∃ a : Int, wo x * ((7 * f.b ^ f.lo.natAbs : Int) : Rat) = (a : Rat)
theorem IntX.add {f : Fm} {x y : P2} (hx : Can x) (hy : Can y) (h : IntX f x) (h' : IntX f y) : IntX f (addP x y) := by
  obtain ⟨a, ha⟩ := h
  obtain ⟨b, hb⟩ := h'
  refine ⟨a + b, ?_⟩
  rw [wo_add hx hy, Rat.add_mul, ha, hb]
  push_cast
  rfl
theorem IntX.neg {f : Fm} {x : P2} (h : IntX f x) : IntX f (ngP x) := by
  obtain ⟨a, ha⟩ := h
  refine ⟨-a, ?_⟩
  rw [wo_ng, Rat.neg_mul, ha]
  push_cast
  rfl
end VI

/-! PL54: drawn programs (k69). -/
namespace VI
open PySem
/-- a step of a program at a place, roots among the words -/
def StW (st : Stp) (nf ni : Nat) : Prop := match st with
  | .inp i => i < ni
  | .told _ => True
  | .op w js => (WordOk w js.length ∨ (js.length = 4 ∧ w = "if")) ∧ ∀ i ∈ js, i < nf
def noRt : Stp → Bool
  | .op w _ => !decide (w = "root")
  | _ => true
theorem StW.ok {st : Stp} {nf ni : Nat} (h : StW st nf ni) (r : noRt st = true) : StOk st nf ni := by
  cases st with
  | inp i => exact h
  | told x => trivial
  | op w js =>
    have nr : w ≠ "root" := by
      have r : (!decide (w = "root")) = true := r
      rw [Bool.not_eq_true', decide_eq_false_iff_not] at r
      exact r
    refine ⟨?_, h.2⟩
    rcases h.1 with (q | ⟨_, q⟩ | q) | q
    · exact .inl q
    · exact absurd q nr
    · exact .inr (.inl q)
    · exact .inr (.inr q)
/-- a drawn program: n inputs, roots or not -/
structure PgG (rt : Bool) (n : Nat) (l : List Stp) : Prop where
  one : 1 ≤ l.length
  st : ∀ (i : Nat) st, l[i]? = some st → StW st i n ∧ TldB st ∧ (rt = false → noRt st = true)
  pr : prN l ≤ 4
theorem IntX.sub {f : Fm} {x y : P2} (hx : Can x) (hy : Can y) (h : IntX f x) (h' : IntX f y) : IntX f (subP x y) := by
  rw [← sub_eq hx hy]
  exact h.add hx (can_ng hy) h'.neg
end VI

/-! PL55: smaller spans tell no more: operations over ends (k70). -/
namespace VI
open PySem
def VE : Ew → Prop
  | .inf s => s = 0 ∨ s = 1
  | .fr x => Can x
theorem EwOk.ve {K : Nat} {e : Ew} (h : EwOk K e) : VE e := by
  cases e with
  | inf s => exact h
  | fr x => exact Fra.can h
/-- not above -/
def leq : Ew → Ew → Prop
  | .inf s, .inf t => s = 0 → t = 0
  | .inf s, .fr _ => s ≠ 0
  | .fr _, .inf t => t = 0
  | .fr x, .fr y => wo x ≤ wo y
theorem leq_iff {x y : Ew} (hx : VE x) (hy : VE y) : ltE y x = false ↔ leq x y := by
  cases x with
  | inf s =>
    cases y with
    | inf t =>
      show decide ((if t = 0 then (1 : Int) else -1) < (if s = 0 then (1 : Int) else -1)) = false ↔ (s = 0 → t = 0)
      by_cases a : s = 0 <;> by_cases b : t = 0 <;> simp [a, b]
    | fr y =>
      show decide ((0 : Int) < (if s = 0 then (1 : Int) else -1)) = false ↔ s ≠ 0
      by_cases a : s = 0 <;> simp [a]
  | fr x =>
    cases y with
    | inf t =>
      show decide ((if t = 0 then (1 : Int) else -1) < 0) = false ↔ t = 0
      by_cases a : t = 0 <;> simp [a]
    | fr y =>
      have := lt_wo (show Can y from hy) (show Can x from hx)
      show _ ↔ wo x ≤ wo y
      rw [← Rat.not_lt, ← this]
      simp
theorem leq_refl (x : Ew) : leq x x := by
  cases x with
  | inf s => exact id
  | fr x => exact Rat.le_refl
theorem leq_trans {x y z : Ew} (h : leq x y) (h' : leq y z) : leq x z := by
  cases x with
  | inf s =>
    cases y with
    | inf t =>
      have h : s = 0 → t = 0 := h
      cases z with
      | inf u => exact fun e => (show t = 0 → u = 0 from h') (h e)
      | fr z => exact fun e => (show t ≠ 0 from h') (h e)
    | fr y =>
      have h : s ≠ 0 := h
      cases z with
      | inf u => exact fun e => absurd e h
      | fr z => exact h
  | fr x =>
    cases y with
    | inf t =>
      have h : t = 0 := h
      cases z with
      | inf u => exact (show t = 0 → u = 0 from h') h
      | fr z => exact absurd h (show t ≠ 0 from h')
    | fr y =>
      cases z with
      | inf u => exact h'
      | fr z => exact Rat.le_trans h h'
theorem leq_total (x y : Ew) : leq x y ∨ leq y x := by
  cases x with
  | inf s =>
    cases y with
    | inf t =>
      show (s = 0 → t = 0) ∨ (t = 0 → s = 0)
      by_cases a : s = 0
      · exact .inr fun _ => a
      · exact .inl fun e => absurd e a
    | fr y =>
      show s ≠ 0 ∨ s = 0
      omega
  | fr x =>
    cases y with
    | inf t =>
      show t = 0 ∨ t ≠ 0
      omega
    | fr y => exact Rat.le_total
theorem leq_neg {x y : Ew} (hx : VE x) (hy : VE y) (h : leq x y) : leq (negE y) (negE x) := by
  cases x with
  | inf s =>
    have hx : s = 0 ∨ s = 1 := hx
    cases y with
    | inf t =>
      have hy : t = 0 ∨ t = 1 := hy
      have h : s = 0 → t = 0 := h
      show 1 - t = 0 → 1 - s = 0
      omega
    | fr y =>
      have h : s ≠ 0 := h
      show 1 - s = 0
      omega
  | fr x =>
    cases y with
    | inf t =>
      have h : t = 0 := h
      show 1 - t ≠ 0
      omega
    | fr y =>
      have h : wo x ≤ wo y := h
      show wo (ngP y) ≤ wo (ngP x)
      rw [wo_ng, wo_ng]
      grind
theorem ve_neg {x : Ew} (h : VE x) : VE (negE x) := by
  cases x with
  | inf s =>
    have h : s = 0 ∨ s = 1 := h
    show 1 - s = 0 ∨ 1 - s = 1
    omega
  | fr x => exact can_ng h
/-- infinite ends of one sign alone -/
def One (s : Int) (e : Ew) : Prop := ∀ t, e = .inf t → t = s
theorem leq_add {s : Int} {a a' b b' : Ew} (va : VE a) (va' : VE a') (vb : VE b) (vb' : VE b') (o : One s a) (o' : One s a') (p : One s b) (p' : One s b') (h : leq a a') (k : leq b b') : leq (addE a b) (addE a' b') := by
  cases a with
  | inf t =>
    have e := o t rfl
    subst e
    cases a' with
    | inf u => have e := o' u rfl; subst e; exact id
    | fr x =>
      have h : t ≠ 0 := h
      cases b' with
      | inf u => have e := p' u rfl; subst e; exact id
      | fr y => exact h
  | fr x =>
    cases a' with
    | inf t =>
      have h : t = 0 := h
      cases b with
      | inf u => exact fun _ => h
      | fr y => exact h
    | fr x' =>
      have h : wo x ≤ wo x' := h
      cases b with
      | inf t =>
        cases b' with
        | inf u => exact k
        | fr y => exact k
      | fr y =>
        cases b' with
        | inf u => exact k
        | fr y' =>
          have k : wo y ≤ wo y' := k
          show wo (addP x y) ≤ wo (addP x' y')
          rw [wo_add va vb, wo_add va' vb']
          grind
/-! ### least and greatest -/
theorem lo_leq {m : Ew} {l : List Ew} (h : ∀ e ∈ m :: l, VE e) : ∀ e ∈ m :: l, leq (loE m l) e := by
  induction l generalizing m with
  | nil =>
    intro e he
    rw [List.mem_singleton.mp he]
    exact leq_refl _
  | cons x l ih =>
    intro e he
    rw [loE_cons]
    have hm := h m (by simp)
    have hx := h x (by simp)
    have step : leq (if ltE x m = true then x else m) m ∧ leq (if ltE x m = true then x else m) x := by
      by_cases q : ltE x m = true
      · rw [if_pos q]
        refine ⟨?_, leq_refl _⟩
        rcases leq_total x m with z | z
        · exact z
        · have := (leq_iff hm hx).mpr z
          rw [q] at this
          cases this
      · rw [if_neg q]
        exact ⟨leq_refl _, (leq_iff hm hx).mp (Bool.eq_false_iff.mpr q)⟩
    have ok : ∀ e ∈ (if ltE x m = true then x else m) :: l, VE e := fun e he => by
      rcases List.mem_cons.mp he with rfl | q
      · split
        · exact hx
        · exact hm
      · exact h e (by simp [q])
    have g := ih ok
    have g0 := g _ List.mem_cons_self
    rcases List.mem_cons.mp he with rfl | q
    · exact leq_trans g0 step.1
    · rcases List.mem_cons.mp q with rfl | q
      · exact leq_trans g0 step.2
      · exact g e (List.mem_cons_of_mem _ q)
theorem hi_leq {m : Ew} {l : List Ew} (h : ∀ e ∈ m :: l, VE e) : ∀ e ∈ m :: l, leq e (hiE m l) := by
  induction l generalizing m with
  | nil =>
    intro e he
    rw [List.mem_singleton.mp he]
    exact leq_refl _
  | cons x l ih =>
    intro e he
    rw [hiE_cons]
    have hm := h m (by simp)
    have hx := h x (by simp)
    have step : leq m (if ltE m x = true then x else m) ∧ leq x (if ltE m x = true then x else m) := by
      by_cases q : ltE m x = true
      · rw [if_pos q]
        refine ⟨?_, leq_refl _⟩
        rcases leq_total m x with z | z
        · exact z
        · have := (leq_iff hx hm).mpr z
          rw [q] at this
          cases this
      · rw [if_neg q]
        exact ⟨leq_refl _, (leq_iff hx hm).mp (Bool.eq_false_iff.mpr q)⟩
    have ok : ∀ e ∈ (if ltE m x = true then x else m) :: l, VE e := fun e he => by
      rcases List.mem_cons.mp he with rfl | q
      · split
        · exact hx
        · exact hm
      · exact h e (by simp [q])
    have g := ih ok
    have g0 := g _ List.mem_cons_self
    rcases List.mem_cons.mp he with rfl | q
    · exact leq_trans step.1 g0
    · rcases List.mem_cons.mp q with rfl | q
      · exact leq_trans step.2 g0
      · exact g e (List.mem_cons_of_mem _ q)
theorem lo_mono {m m' : Ew} {l l' : List Ew} (h : ∀ e ∈ m :: l, VE e) (k : ∀ e ∈ m' :: l', ∃ u ∈ m :: l, leq u e) : leq (loE m l) (loE m' l') := by
  obtain ⟨u, hu, q⟩ := k _ (loE_mem l' m')
  exact leq_trans (lo_leq h u hu) q
theorem hi_mono {m m' : Ew} {l l' : List Ew} (h : ∀ e ∈ m :: l, VE e) (k : ∀ e ∈ m' :: l', ∃ u ∈ m :: l, leq e u) : leq (hiE m' l') (hiE m l) := by
  obtain ⟨u, hu, q⟩ := k _ (hiE_mem l' m')
  exact leq_trans q (hi_leq h u hu)
/-! ### products -/
theorem num_leq {x y : Ew} (hx : VE x) (hy : VE y) (h : leq x y) : (0 < numE x → 0 < numE y) ∧ (0 ≤ numE x → 0 ≤ numE y) ∧ (numE y < 0 → numE x < 0) := by
  have i0 : ∀ s : Int, (s = 0 → numE (.inf s) = 1) ∧ (s ≠ 0 → numE (.inf s) = -1) := fun s => ⟨fun e => if_pos e, fun e => if_neg e⟩
  cases x with
  | inf s =>
    cases y with
    | inf t =>
      have h : s = 0 → t = 0 := h
      by_cases a : s = 0
      · rw [(i0 s).1 a, (i0 t).1 (h a)]; omega
      · rw [(i0 s).2 a]; omega
    | fr y =>
      rw [(i0 s).2 h]
      omega
  | fr x =>
    cases y with
    | inf t =>
      rw [(i0 t).1 h]
      omega
    | fr y =>
      have h : wo x ≤ wo y := h
      have a := rat_pos (show Can x from hx)
      have b := rat_pos (show Can y from hy)
      show (0 < x.1 → 0 < y.1) ∧ (0 ≤ x.1 → 0 ≤ y.1) ∧ (y.1 < 0 → x.1 < 0)
      have p1 : 0 ≤ x.1 → 0 ≤ y.1 := fun z => b.1.mpr (Rat.le_trans (a.1.mp z) h)
      refine ⟨fun z => ?_, p1, fun z => ?_⟩
      · have c := p1 (by omega)
        have d : y.1 ≠ 0 := fun e => by
          have y0 := b.2.mp e
          have x0 := a.1.mp (show 0 ≤ x.1 by omega)
          have := a.2.mpr (by rw [y0] at h; exact Rat.le_antisymm h x0)
          omega
        omega
      · have : ¬ 0 ≤ x.1 := fun q => by have := p1 q; omega
        omega
theorem leq_mul {a e g : Ew} (ha : VE a) (he : VE e) (hg : VE g) (h0 : 0 ≤ numE g) (h : leq a e) : leq (mulE a g) (mulE e g) := by
  by_cases z : numE g = 0
  · have m0 : ∀ u, mulE u g = .fr (0, 1) := fun u => if_pos (.inr z)
    rw [m0, m0]
    exact leq_refl _
  have gp : 0 < numE g := by omega
  have nl := num_leq ha he h
  have zz : wo (0, 1) = 0 := wo01
  cases g with
  | inf t =>
    have ht : t = 0 := by
      have hg : t = 0 ∨ t = 1 := hg
      rcases hg with q | q
      · exact q
      · rw [q] at gp
        exact absurd gp (by decide)
    subst ht
    have mi : ∀ u : Ew, mulE u (.inf 0) = if numE u = 0 then .fr (0, 1) else if 0 < numE u then .inf 0 else .inf 1 := fun u => by
      by_cases q : numE u = 0
      · rw [if_pos q]
        exact if_pos (.inl q)
      · rw [if_neg q]
        have n1 : numE (.inf 0) = 1 := rfl
        cases u with
        | inf s =>
          show (if numE (.inf s) = 0 ∨ numE (.inf 0) = 0 then Ew.fr (0, 1) else if (0 < numE (.inf s) ↔ 0 < numE (.inf 0)) then .inf 0 else .inf 1) = _
          rw [if_neg (by rw [n1]; omega), n1]
          by_cases r : 0 < numE (.inf s)
          · rw [if_pos r, if_pos (by simp [r])]
          · rw [if_neg r, if_neg (by simp [r])]
        | fr x =>
          show (if numE (.fr x) = 0 ∨ numE (.inf 0) = 0 then Ew.fr (0, 1) else if (0 < numE (.fr x) ↔ 0 < numE (.inf 0)) then .inf 0 else .inf 1) = _
          rw [if_neg (by rw [n1]; omega), n1]
          by_cases r : 0 < numE (.fr x)
          · rw [if_pos r, if_pos (by simp [r])]
          · rw [if_neg r, if_neg (by simp [r])]
    rw [mi, mi]
    by_cases a0 : numE a = 0
    · rw [if_pos a0]
      by_cases e0 : numE e = 0
      · rw [if_pos e0]; exact leq_refl _
      · rw [if_neg e0, if_pos (by omega)]
        exact rfl
    · rw [if_neg a0]
      by_cases a1 : 0 < numE a
      · have := nl.1 a1
        rw [if_pos a1, if_neg (by omega), if_pos this]
        exact id
      · rw [if_neg a1]
        split
        · exact (show (1 : Int) ≠ 0 by decide)
        · split
          · exact fun q => absurd q (by decide)
          · exact id
  | fr y =>
    have gp : 0 < y.1 := gp
    have cy : Can y := hg
    have y0 : 0 ≤ wo y := (rat_pos cy).1.mp (by omega)
    have mi : ∀ s : Int, (s = 0 ∨ s = 1) → mulE (.inf s) (.fr y) = .inf s := fun s hs => by
      rw [mul_if, if_neg (by omega), if_pos gp]
      rcases hs with rfl | rfl <;> rfl
    cases a with
    | inf s =>
      rw [mi s ha]
      cases e with
      | inf t => rw [mi t he]; exact h
      | fr x =>
        obtain ⟨z1, e1, _, _⟩ := mul_fr (show Can x from he) cy
        rw [e1]
        exact h
    | fr x =>
      obtain ⟨z1, e1, _, w1⟩ := mul_fr (show Can x from ha) cy
      rw [e1]
      cases e with
      | inf t => rw [mi t he]; exact h
      | fr x' =>
        obtain ⟨z2, e2, _, w2⟩ := mul_fr (show Can x' from he) cy
        rw [e2]
        show wo z1 ≤ wo z2
        rw [w1, w2]
        exact mul_le_r h y0
theorem mul_comm' {a b : Ew} (ha : VE a) (hb : VE b) : mulE a b = mulE b a := by
  by_cases z : numE a = 0 ∨ numE b = 0
  · have e1 : mulE a b = .fr (0, 1) := if_pos z
    have e2 : mulE b a = .fr (0, 1) := if_pos (by omega)
    rw [e1, e2]
  · have ii : ∀ p q : Prop, [Decidable (p ↔ q)] → [Decidable (q ↔ p)] → (if (p ↔ q) then Ew.inf 0 else .inf 1) = (if (q ↔ p) then Ew.inf 0 else .inf 1) := fun p q _ _ => by
      by_cases r : p ↔ q
      · rw [if_pos r, if_pos r.symm]
      · rw [if_neg r, if_neg fun t => r t.symm]
    have z' : ¬ (numE b = 0 ∨ numE a = 0) := by omega
    cases a with
    | inf s =>
      cases b with
      | inf t => exact (if_neg z).trans ((ii _ _).trans (if_neg z').symm)
      | fr y => exact (if_neg z).trans ((ii _ _).trans (if_neg z').symm)
    | fr x =>
      cases b with
      | inf t => exact (if_neg z).trans ((ii _ _).trans (if_neg z').symm)
      | fr y =>
        refine (if_neg z).trans (Eq.trans ?_ (if_neg z').symm)
        show Ew.fr (mulP x y) = .fr (mulP y x)
        rw [wo_eq (can_mul ha hb) (can_mul hb ha) (by rw [wo_mul ha hb, wo_mul hb ha, Rat.mul_comm])]
theorem ve_mul {a b : Ew} (ha : VE a) (hb : VE b) : VE (mulE a b) := by
  by_cases z : numE a = 0 ∨ numE b = 0
  · have e1 : mulE a b = .fr (0, 1) := if_pos z
    rw [e1]
    exact can01
  · have ii : ∀ p : Prop, [Decidable p] → VE (if p then Ew.inf 0 else .inf 1) := fun p _ => by
      split
      · exact .inl rfl
      · exact .inr rfl
    cases a with
    | inf s =>
      cases b with
      | inf t => rw [show mulE (.inf s) (.inf t) = _ from if_neg z]; exact ii _
      | fr y => rw [show mulE (.inf s) (.fr y) = _ from if_neg z]; exact ii _
    | fr x =>
      cases b with
      | inf t => rw [show mulE (.fr x) (.inf t) = _ from if_neg z]; exact ii _
      | fr y => rw [show mulE (.fr x) (.fr y) = _ from if_neg z]; exact can_mul ha hb
theorem can_fra {x : P2} (h : Can x) : ∃ K, Fra K x := ⟨x.1.natAbs + x.2.natAbs, h, Nat.lt_of_le_of_lt (Nat.le_add_right _ _) Nat.lt_two_pow_self, Nat.lt_of_le_of_lt (Nat.le_add_left _ _) Nat.lt_two_pow_self⟩
theorem neg_mul' {u e : Ew} (hu : VE u) (he : VE e) : mulE (negE u) e = negE (mulE u e) := by
  have b : ∀ {v : Ew}, VE v → ∃ K, EwOk K v := fun {v} h => by
    cases v with
    | inf s => exact ⟨0, h⟩
    | fr x => obtain ⟨K, k⟩ := can_fra h; exact ⟨K, k⟩
  obtain ⟨K, h1⟩ := b hu
  obtain ⟨L, h2⟩ := b he
  exact neg_mul (h1.up (show K ≤ K + L by omega)) (h2.up (show L ≤ K + L by omega))
theorem num_neg' {e : Ew} (h : VE e) : numE (negE e) = - numE e := by
  cases e with
  | inf s => exact num_neg0 (K := 0) h
  | fr x => rfl
theorem leq_mul_n {a e g : Ew} (ha : VE a) (he : VE e) (hg : VE g) (h0 : numE g ≤ 0) (h : leq a e) : leq (mulE e g) (mulE a g) := by
  have n : ∀ {u}, VE u → mulE u g = negE (mulE (negE u) g) := fun {u} hu => by
    rw [neg_mul' hu hg, neg_neg]
  have g' : g = negE (negE g) := neg_neg.symm
  have r : ∀ {u}, VE u → mulE u g = negE (mulE u (negE g)) := fun {u} hu => by
    rw [mul_comm' hu (ve_neg hg), neg_mul' hg hu, neg_neg, mul_comm' hg hu]
  rw [r he, r ha]
  exact leq_neg (ve_mul ha (ve_neg hg)) (ve_mul he (ve_neg hg)) (leq_mul ha he (ve_neg hg) (by rw [num_neg' hg]; omega) h)
def SubE (p P : Ew × Ew) : Prop := leq P.1 p.1 ∧ leq p.2 P.2
theorem four_mem {p r : Ew × Ew} {u : Ew} : u ∈ four p r ↔ ∃ x y, (x = p.1 ∨ x = p.2) ∧ (y = r.1 ∨ y = r.2) ∧ u = mulE x y := by
  have e : u ∈ four p r ↔ u = mulE p.1 r.1 ∨ u = mulE p.1 r.2 ∨ u = mulE p.2 r.1 ∨ u = mulE p.2 r.2 := by simp [four, prds]
  rw [e]
  constructor
  · rintro (q | q | q | q)
    · exact ⟨_, _, .inl rfl, .inl rfl, q⟩
    · exact ⟨_, _, .inl rfl, .inr rfl, q⟩
    · exact ⟨_, _, .inr rfl, .inl rfl, q⟩
    · exact ⟨_, _, .inr rfl, .inr rfl, q⟩
  · rintro ⟨x, y, rfl | rfl, rfl | rfl, q⟩ <;> simp [q]
theorem corner {P R : Ew × Ew} {e g : Ew} (v1 : VE P.1) (v2 : VE P.2) (v3 : VE R.1) (v4 : VE R.2) (he : VE e) (hg : VE g) (a : leq P.1 e) (b : leq e P.2) (c : leq R.1 g) (d : leq g R.2) :
    (∃ u ∈ four P R, leq u (mulE e g)) ∧ ∃ u ∈ four P R, leq (mulE e g) u := by
  have s1 : ∃ x y, (x = P.1 ∨ x = P.2) ∧ (y = P.1 ∨ y = P.2) ∧ leq (mulE x g) (mulE e g) ∧ leq (mulE e g) (mulE y g) := by
    by_cases n : 0 ≤ numE g
    · exact ⟨_, _, .inl rfl, .inr rfl, leq_mul v1 he hg n a, leq_mul he v2 hg n b⟩
    · exact ⟨_, _, .inr rfl, .inl rfl, leq_mul_n he v2 hg (by omega) b, leq_mul_n v1 he hg (by omega) a⟩
  have s2 : ∀ x, (x = P.1 ∨ x = P.2) → (∃ u, (u = R.1 ∨ u = R.2) ∧ leq (mulE x u) (mulE x g)) ∧ ∃ u, (u = R.1 ∨ u = R.2) ∧ leq (mulE x g) (mulE x u) := fun x hx => by
    have vx : VE x := by rcases hx with rfl | rfl; exact v1; exact v2
    rw [mul_comm' vx hg]
    by_cases n : 0 ≤ numE x
    · exact ⟨⟨_, .inl rfl, by rw [mul_comm' vx v3]; exact leq_mul v3 hg vx n c⟩, ⟨_, .inr rfl, by rw [mul_comm' vx v4]; exact leq_mul hg v4 vx n d⟩⟩
    · exact ⟨⟨_, .inr rfl, by rw [mul_comm' vx v4]; exact leq_mul_n hg v4 vx (by omega) d⟩, ⟨_, .inl rfl, by rw [mul_comm' vx v3]; exact leq_mul_n v3 hg vx (by omega) c⟩⟩
  obtain ⟨x, y, hx, hy, l, h⟩ := s1
  obtain ⟨u, hu, l2⟩ := (s2 x hx).1
  obtain ⟨w, hw, h2⟩ := (s2 y hy).2
  exact ⟨⟨_, four_mem.mpr ⟨x, u, hx, hu, rfl⟩, leq_trans l2 l⟩, ⟨_, four_mem.mpr ⟨y, w, hy, hw, rfl⟩, leq_trans h h2⟩⟩
theorem ve_four {p r : Ew × Ew} (v1 : VE p.1) (v2 : VE p.2) (v3 : VE r.1) (v4 : VE r.2) : ∀ e ∈ four p r, VE e := fun e he => by
  obtain ⟨x, y, hx, hy, rfl⟩ := four_mem.mp he
  refine ve_mul ?_ ?_
  · rcases hx with rfl | rfl
    · exact v1
    · exact v2
  · rcases hy with rfl | rfl
    · exact v3
    · exact v4
/-- a list's least and greatest -/
theorem ends_sub {m m' : Ew} {l l' : List Ew} (h : ∀ e ∈ m :: l, VE e) (k : ∀ e ∈ m' :: l', (∃ u ∈ m :: l, leq u e) ∧ ∃ u ∈ m :: l, leq e u) : SubE (loE m' l', hiE m' l') (loE m l, hiE m l) :=
  ⟨lo_mono h fun e he => (k e he).1, hi_mono h fun e he => (k e he).2⟩
theorem ends_ord {m : Ew} {l : List Ew} (h : ∀ e ∈ m :: l, VE e) : leq (loE m l) (hiE m l) := leq_trans (lo_leq h m (by simp)) (hi_leq h m (by simp))
theorem mem_ve {m : Ew} {l : List Ew} (h : ∀ e ∈ m :: l, VE e) : VE (loE m l) ∧ VE (hiE m l) := ⟨h _ (loE_mem l m), h _ (hiE_mem l m)⟩
structure VR (p : Ew × Ew) : Prop where
  a : VE p.1
  b : VE p.2
  o : leq p.1 p.2
theorem prd_sub {p r P R : Ew × Ew} (vp : VR p) (vr : VR r) (vP : VR P) (vR : VR R) (h : SubE p P) (k : SubE r R) : SubE (prdE p r) (prdE P R) ∧ VR (prdE p r) := by
  have v := ve_four vp.a vp.b vr.a vr.b
  have V := ve_four vP.a vP.b vR.a vR.b
  refine ⟨ends_sub V fun e he => ?_, ⟨(mem_ve v).1, (mem_ve v).2, ends_ord v⟩⟩
  obtain ⟨x, y, hx, hy, rfl⟩ := four_mem.mp he
  have ix : VE x ∧ leq P.1 x ∧ leq x P.2 := by
    rcases hx with rfl | rfl
    · exact ⟨vp.a, h.1, leq_trans vp.o h.2⟩
    · exact ⟨vp.b, leq_trans h.1 vp.o, h.2⟩
  have iy : VE y ∧ leq R.1 y ∧ leq y R.2 := by
    rcases hy with rfl | rfl
    · exact ⟨vr.a, k.1, leq_trans vr.o k.2⟩
    · exact ⟨vr.b, leq_trans k.1 vr.o, k.2⟩
  exact corner vP.a vP.b vR.a vR.b ix.1 iy.1 ix.2.1 ix.2.2 iy.2.1 iy.2.2
/-! ### turned ends -/
theorem leq_top {x : Ew} (h : VE x) : leq x (.inf 0) := by
  cases x with
  | inf s => exact fun _ => rfl
  | fr x => exact rfl
theorem leq_bot {x : Ew} (h : VE x) : leq (.inf 1) x := by
  cases x with
  | inf s => exact fun q => absurd q (by decide)
  | fr x => exact show (1 : Int) ≠ 0 by decide
/-! ### operations -/
theorem Row.vr {K : Nat} {p : Ew × Ew} (h : Row K p) (o : leq p.1 p.2) : VR p := ⟨h.a.ve, h.b.ve, o⟩
theorem Row.oa {K : Nat} {p : Ew × Ew} (h : Row K p) : One 1 p.1 := fun t e => by
  have a := h.a
  rw [e] at a
  rcases (show t = 0 ∨ t = 1 from a) with q | q
  · exact absurd (by rw [e, q]) h.na
  · exact q
theorem Row.ob {K : Nat} {p : Ew × Ew} (h : Row K p) : One 0 p.2 := fun t e => by
  have a := h.b
  rw [e] at a
  rcases (show t = 0 ∨ t = 1 from a) with q | q
  · exact q
  · exact absurd (by rw [e, q]) h.nb
theorem One.neg {s : Int} {e : Ew} (h : One s e) : One (1 - s) (negE e) := fun t q => by
  cases e with
  | inf u =>
    have := h u rfl
    cases q
    rw [this]
  | fr x => cases q
theorem add_sub {K L M N : Nat} {p r P R : Ew × Ew} (hp : Row K p) (hr : Row L r) (hP : Row M P) (hR : Row N R) (o1 : leq p.1 p.2) (o2 : leq r.1 r.2) (h : SubE p P) (k : SubE r R) :
    SubE (addE p.1 r.1, addE p.2 r.2) (addE P.1 R.1, addE P.2 R.2) := ⟨leq_add hP.a.ve hp.a.ve hR.a.ve hr.a.ve hP.oa hp.oa hR.oa hr.oa h.1 k.1, leq_add hp.b.ve hP.b.ve hr.b.ve hR.b.ve hp.ob hP.ob hr.ob hR.ob h.2 k.2⟩
end VI

/-! PL56: smaller spans tell no more: rounding, roots, operations (k70). -/
namespace VI
open PySem
theorem leq_end {f : Fm} (hf : FmOk f) {x y : Vl} (hx : EndOk f x) (hy : EndOk f y) : ltB f y x = false ↔ leq (endE f x) (endE f y) := by
  rw [ltB_ltE hf hy hx]
  exact leq_iff (end_ok hf hx.ok).ve (end_ok hf hy.ok).ve
/-! ### operations -/
theorem ve_add {a b : Ew} (ha : VE a) (hb : VE b) : VE (addE a b) := by
  cases a with
  | inf s => exact ha
  | fr x =>
    cases b with
    | inf t => exact hb
    | fr y => exact can_add ha hb
theorem add_ord {a a' b b' : Ew} (va : VE a) (va' : VE a') (vb : VE b) (vb' : VE b') (o : One 1 a) (o' : One 0 a') (p : One 1 b) (p' : One 0 b') (h : leq a a') (k : leq b b') : leq (addE a b) (addE a' b') := by
  have v := ve_add va' vb'
  cases a with
  | inf t => have e := o t rfl; subst e; exact leq_bot v
  | fr x =>
    cases b with
    | inf t => have e := p t rfl; subst e; exact leq_bot v
    | fr y =>
      cases a' with
      | inf t => have e := o' t rfl; subst e; exact rfl
      | fr x' =>
        cases b' with
        | inf t => have e := p' t rfl; subst e; exact rfl
        | fr y' =>
          have h : wo x ≤ wo x' := h
          have k : wo y ≤ wo y' := k
          show wo (addP x y) ≤ wo (addP x' y')
          rw [wo_add va vb, wo_add va' vb']
          grind
theorem two_sub {p r P R : Ew × Ew} (vp : VR p) (vr : VR r) (vP : VR P) (vR : VR R) (h : SubE p P) (k : SubE r R) :
    (SubE (loE p.1 [r.1], loE p.2 [r.2]) (loE P.1 [R.1], loE P.2 [R.2]) ∧ leq (loE p.1 [r.1]) (loE p.2 [r.2])) ∧ (SubE (hiE p.1 [r.1], hiE p.2 [r.2]) (hiE P.1 [R.1], hiE P.2 [R.2]) ∧ leq (hiE p.1 [r.1]) (hiE p.2 [r.2])) := by
  have m : ∀ {x y : Ew}, VE x → VE y → ∀ e ∈ [x, y], VE e := fun {x y} hx hy e he => by
    simp only [List.mem_cons, List.not_mem_nil, or_false] at he
    rcases he with rfl | rfl
    · exact hx
    · exact hy
  have lo : ∀ {a b c d : Ew}, VE a → VE b → leq a c → leq b d → leq (loE a [b]) (loE c [d]) := fun {a b c d} ha hb q1 q2 => lo_mono (m ha hb) fun e he => by
    simp only [List.mem_cons, List.not_mem_nil, or_false] at he
    rcases he with rfl | rfl
    · exact ⟨a, by simp, q1⟩
    · exact ⟨b, by simp, q2⟩
  have hi : ∀ {a b c d : Ew}, VE c → VE d → leq a c → leq b d → leq (hiE a [b]) (hiE c [d]) := fun {a b c d} ha hb q1 q2 => hi_mono (m ha hb) fun e he => by
    simp only [List.mem_cons, List.not_mem_nil, or_false] at he
    rcases he with rfl | rfl
    · exact ⟨c, by simp, q1⟩
    · exact ⟨d, by simp, q2⟩
  exact ⟨⟨⟨lo vP.a vR.a h.1 k.1, lo vp.b vr.b h.2 k.2⟩, lo vp.a vr.a vp.o vr.o⟩, ⟨⟨hi vp.a vr.a h.1 k.1, hi vP.b vR.b h.2 k.2⟩, hi vp.b vr.b vp.o vr.o⟩⟩
theorem row_ng {K : Nat} {p : Ew × Ew} (h : Row K p) : Row K (negE p.2, negE p.1) := ⟨ew_neg h.b, ew_neg h.a, fun z => h.nb (neg_inf z), fun z => h.na (by
  have := congrArg negE (show negE p.1 = .inf 1 from z)
  rw [neg_neg] at this
  exact this)⟩
theorem op_sub {word : Str} {rows Rows : List (Ew × Ew)} (ho : OpIs word rows.length) (hl : Rows.length = rows.length) (hr : ∀ p ∈ rows, Row 3200 p ∧ leq p.1 p.2) (hR : ∀ p ∈ Rows, Row 3200 p ∧ leq p.1 p.2)
    (s : ∀ (i : Nat) p P, rows[i]? = some p → Rows[i]? = some P → SubE p P) : SubE (opE word rows) (opE word Rows) ∧ leq (opE word rows).1 (opE word rows).2 := by
  match rows, Rows, hl with
  | [p], [P], _ =>
    obtain ⟨rp, op⟩ := hr p (by simp)
    obtain ⟨rP, oP⟩ := hR P (by simp)
    have vp := rp.vr op
    have vP := rP.vr oP
    have sp := s 0 p P rfl rfl
    show SubE (if word = "opposite" then (negE p.2, negE p.1) else sizE p) (if word = "opposite" then (negE P.2, negE P.1) else sizE P) ∧ leq (if word = "opposite" then (negE p.2, negE p.1) else sizE p).1 (if word = "opposite" then (negE p.2, negE p.1) else sizE p).2
    split
    · exact ⟨⟨leq_neg vp.b vP.b sp.2, leq_neg vP.a vp.a sp.1⟩, leq_neg vp.a vp.b op⟩
    · have v1 : ∀ e ∈ [P.1, negE P.2, Ew.fr (0, 1)], VE e := fun e he => by
        simp only [List.mem_cons, List.not_mem_nil, or_false] at he
        rcases he with rfl | rfl | rfl
        · exact vP.a
        · exact ve_neg vP.b
        · exact can01
      have v2 : ∀ e ∈ [P.2, negE P.1], VE e := fun e he => by
        simp only [List.mem_cons, List.not_mem_nil, or_false] at he
        rcases he with rfl | rfl
        · exact vP.b
        · exact ve_neg vP.a
      have v3 : ∀ e ∈ [p.1, negE p.2, Ew.fr (0, 1)], VE e := fun e he => by
        simp only [List.mem_cons, List.not_mem_nil, or_false] at he
        rcases he with rfl | rfl | rfl
        · exact vp.a
        · exact ve_neg vp.b
        · exact can01
      have v4 : ∀ e ∈ [p.2, negE p.1], VE e := fun e he => by
        simp only [List.mem_cons, List.not_mem_nil, or_false] at he
        rcases he with rfl | rfl
        · exact vp.b
        · exact ve_neg vp.a
      refine ⟨⟨?_, ?_⟩, ?_⟩
      · -- the greatest of the lower ones
        show leq (hiE P.1 [negE P.2, .fr (0, 1)]) (hiE p.1 [negE p.2, .fr (0, 1)])
        refine hi_mono v3 fun e he => ?_
        simp only [List.mem_cons, List.not_mem_nil, or_false] at he
        rcases he with rfl | rfl | rfl
        · exact ⟨p.1, by simp, sp.1⟩
        · exact ⟨negE p.2, by simp, leq_neg vp.b vP.b sp.2⟩
        · exact ⟨.fr (0, 1), by simp, leq_refl _⟩
      · show leq (hiE p.2 [negE p.1]) (hiE P.2 [negE P.1])
        refine hi_mono v2 fun e he => ?_
        simp only [List.mem_cons, List.not_mem_nil, or_false] at he
        rcases he with rfl | rfl
        · exact ⟨P.2, by simp, sp.2⟩
        · exact ⟨negE P.1, by simp, leq_neg vP.a vp.a sp.1⟩
      · show leq (hiE p.1 [negE p.2, .fr (0, 1)]) (hiE p.2 [negE p.1])
        refine hi_mono v4 fun e he => ?_
        simp only [List.mem_cons, List.not_mem_nil, or_false] at he
        rcases he with rfl | rfl | rfl
        · exact ⟨p.2, by simp, op⟩
        · exact ⟨negE p.1, by simp, leq_neg vp.a vp.b op⟩
        · rcases leq_total (.fr (0, 1)) p.2 with q | q
          · exact ⟨p.2, by simp, q⟩
          · exact ⟨negE p.1, by simp, leq_neg (x := p.1) (y := .fr (0, 1)) vp.a can01 (leq_trans op q)⟩
  | [p, r], [P, R], _ =>
    obtain ⟨rp, op⟩ := hr p (by simp)
    obtain ⟨rP, oP⟩ := hR P (by simp)
    obtain ⟨rr, or⟩ := hr r (by simp)
    obtain ⟨rR, oR⟩ := hR R (by simp)
    have vp := rp.vr op
    have vP := rP.vr oP
    have vr := rr.vr or
    have vR := rR.vr oR
    have sp := s 0 p P rfl rfl
    have sr := s 1 r R rfl rfl
    rcases ho with ⟨q, _⟩ | ⟨_, rfl | rfl | rfl | rfl | rfl⟩ | ⟨q, _⟩
    · cases q
    · exact ⟨add_sub rp rr rP rR op or sp sr, add_ord vp.a vp.b vr.a vr.b rp.oa rp.ob rr.oa rr.ob op or⟩
    · have nr := row_ng rr
      have nR := row_ng rR
      have on := leq_neg vr.a vr.b or
      exact ⟨add_sub rp nr rP nR op on sp ⟨leq_neg vr.b vR.b sr.2, leq_neg vR.a vr.a sr.1⟩, add_ord vp.a vp.b nr.a.ve nr.b.ve rp.oa rp.ob nr.oa nr.ob op on⟩
    · exact ⟨(prd_sub vp vr vP vR sp sr).1, (prd_sub vp vr vP vR sp sr).2.o⟩
    · exact (two_sub vp vr vP vR sp sr).1
    · exact (two_sub vp vr vP vR sp sr).2
    · cases q
  | [p, r, u], [P, R, U], _ =>
    obtain ⟨rp, op⟩ := hr p (by simp)
    obtain ⟨rP, oP⟩ := hR P (by simp)
    obtain ⟨rr, or⟩ := hr r (by simp)
    obtain ⟨rR, oR⟩ := hR R (by simp)
    obtain ⟨ru, ou⟩ := hr u (by simp)
    obtain ⟨rU, oU⟩ := hR U (by simp)
    obtain ⟨a, b⟩ := prd_sub (rp.vr op) (rr.vr or) (rP.vr oP) (rR.vr oR) (s 0 p P rfl rfl) (s 1 r R rfl rfl)
    have r1 := row_prd rp rr (by omega)
    have r2 := row_prd rP rR (by omega)
    exact ⟨add_sub r1 ru r2 rU b.o ou a (s 2 u U rfl rfl), add_ord b.a b.b ru.a.ve ru.b.ve r1.oa r1.ob ru.oa ru.ob b.o ou⟩
  | [], [], _ => exact absurd ho (by unfold OpIs; simp)
  | _ :: _ :: _ :: _ :: _, _ :: _ :: _ :: _ :: _, _ => exact absurd ho (by unfold OpIs; simp)
end VI

/-! PL57: smaller boxes tell no more (k70). -/
namespace VI
open PySem
theorem lies_rk {f : Fm} {a b c d : Vl} : liesS f (.sp a b) (.sp c d) = true ↔ rkV f c ≤ rkV f a ∧ rkV f b ≤ rkV f d := by
  show (!(decide (rkV f a < rkV f c)) && !(decide (rkV f d < rkV f b))) = true ↔ _
  rw [Bool.and_eq_true, Bool.not_eq_true', Bool.not_eq_true', decide_eq_false_iff_not, decide_eq_false_iff_not]
  omega
theorem ord_rk {f : Fm} (hf : FmOk f) {a b : Vl} (h : SpanOk f (.sp a b)) : SpOrd f (.sp a b) ↔ rkV f a ≤ rkV f b := by
  have h : SpOk f a b := h
  show ltE (endE f b) (endE f a) = false ↔ _
  rw [← ltB_ltE hf h.b h.a]
  show decide (rkV f b < rkV f a) = false ↔ _
  rw [decide_eq_false_iff_not]
  omega
theorem lies_refl (f : Fm) (s : Sp) : liesS f s s = true := by
  cases s with
  | no => rfl
  | sp a b => exact lies_rk.mpr ⟨Int.le_refl _, Int.le_refl _⟩
theorem lies_trans {f : Fm} {s t u : Sp} (h : liesS f s t = true) (h' : liesS f t u = true) : liesS f s u = true := by
  cases s with
  | no => rfl
  | sp a b =>
    cases t with
    | no => cases h
    | sp c d =>
      cases u with
      | no => cases h'
      | sp e g =>
        have := lies_rk.mp h
        have := lies_rk.mp h'
        exact lies_rk.mpr (by omega)
end VI

/-! PL58: programs over smaller boxes (k70). -/
namespace VI
open PySem
def SpOO (f : Fm) (s : Sp) : Prop := SpanOk f s ∧ SpOrd f s
end VI

/-! PL59: halves of boxes lie in them (k70). -/
namespace VI
open PySem
def HalTo (f : Fm) (ss : List Sp) (d : D) : Prop := ∃ o, WidTo f ss o ∧ match o with
  | none => d = .none
  | some i => ∃ s, ss[i]? = some s ∧ d = partD f ss i s
/-- a box that lies in another one -/
structure InB (f : Fm) (ss hs : List Sp) : Prop where
  box : BoxOk f hs
  ok : ∀ s ∈ hs, SpOO f s
  len : ss.length = hs.length
  lies : ∀ (i : Nat) s S, hs[i]? = some s → ss[i]? = some S → liesS f s S = true
theorem InB.refl {f : Fm} {ss : List Sp} (b : BoxOk f ss) (o : ∀ s ∈ ss, SpOrd f s) : InB f ss ss := ⟨b, fun s hs => ⟨b.ok s hs, o s hs⟩, rfl, fun i s S h h' => by
  rw [h] at h'
  cases h'
  exact lies_refl f _⟩
theorem InB.trans {f : Fm} {ss hs ks : List Sp} (a : InB f ss hs) (b : InB f hs ks) : InB f ss ks := ⟨b.box, b.ok, a.len.trans b.len, fun i s S h h' => by
  have il := (List.getElem?_eq_some_iff.mp h).1
  have e := b.len
  obtain ⟨t, ht⟩ : ∃ t, hs[i]? = some t := ⟨_, List.getElem?_eq_getElem (by omega)⟩
  exact lies_trans (b.lies i s t h ht) (a.lies i t S ht h')⟩
theorem set_inB {f : Fm} {ss : List Sp} (b : BoxOk f ss) (o : ∀ s ∈ ss, SpOrd f s) {i : Nat} {s t : Sp} (h : ss[i]? = some s) (ok : SpOO f t) (l : liesS f t s = true) : InB f ss ((ss.take i ++ [t]) ++ ss.drop (i + 1)) := by
  have il := (List.getElem?_eq_some_iff.mp h).1
  have e : (ss.take i ++ [t]) ++ ss.drop (i + 1) = ss.set i t := by
    rw [List.set_eq_take_append_cons_drop, if_pos il, List.append_assoc]
    rfl
  rw [e]
  have mem : ∀ u ∈ ss.set i t, SpOO f u := fun u hu => by
    rcases List.mem_or_eq_of_mem_set hu with q | q
    · exact ⟨b.ok u q, o u q⟩
    · rw [q]
      exact ok
  refine ⟨⟨by rw [List.length_set]; exact b.len, fun u hu => (mem u hu).1⟩, mem, by rw [List.length_set], fun j u S hu hS => ?_⟩
  rw [List.getElem?_set] at hu
  split at hu
  · rename_i q
    subst q
    rw [h] at hS
    cases hS
    cases hu
    exact l
  · rw [hu] at hS
    cases hS
    exact lies_refl f _
end VI

/-! PL60: results over halves (k72). -/
namespace VI
open PySem
/-- the two halves, where there are some -/
def HalP (f : Fm) (ss : List Sp) (o : Option (List Sp × List Sp)) : Prop := ∃ w, WidTo f ss w ∧ match w with
  | none => o = none
  | some i => ∃ a b m, ss[i]? = some (.sp a b) ∧ midV f (.sp a b) = some m ∧ o = some ((ss.take i ++ [Sp.sp a m]) ++ ss.drop (i + 1), (ss.take i ++ [Sp.sp m b]) ++ ss.drop (i + 1))
theorem halP_uniq {f : Fm} {ss : List Sp} {o o' : Option (List Sp × List Sp)} (h : HalP f ss o) (h' : HalP f ss o') : o = o' := by
  obtain ⟨w, a, b⟩ := h
  obtain ⟨w', a', b'⟩ := h'
  have e := wid_uniq a a'
  subst e
  cases w with
  | none => exact Eq.trans b (Eq.symm b')
  | some i =>
    obtain ⟨x, y, m, e1, e2, rfl⟩ := b
    obtain ⟨x', y', m', e1', e2', rfl⟩ := b'
    rw [e1] at e1'
    cases e1'
    rw [e2] at e2'
    cases e2'
    rfl
def hpD : Option (List Sp × List Sp) → D
  | none => .none
  | some (a, b) => .tuple [boxD a, boxD b]
theorem hal_to {f : Fm} (hf : FmOk f) {ss : List Sp} (b : BoxOk f ss) (o : ∀ s ∈ ss, SpOrd f s) {d : D} (h : HalTo f ss d) : ∃ p, HalP f ss p ∧ d = hpD p ∧ ∀ h1 h2, p = some (h1, h2) → InB f ss h1 ∧ InB f ss h2 := by
  obtain ⟨w, hw, h⟩ := h
  cases w with
  | none => exact ⟨none, ⟨none, hw, rfl⟩, h, fun _ _ q => by cases q⟩
  | some i =>
    have hw0 := hw
    obtain ⟨s, hs, rfl⟩ := h
    obtain ⟨s', hs', ap, _⟩ := hw
    rw [hs] at hs'
    cases hs'
    have ms := List.mem_of_getElem? hs
    cases s with
    | no =>
      have ap : (2 : Int) ≤ 0 := ap
      omega
    | sp x y =>
      have ap : 2 ≤ rkV f y - rkV f x := ap
      have kk := b.ok _ ms
      have k : SpOk f x y := kk
      have bX : ∀ {v : Vl}, EndOk f v → rkV f v ≤ f.X ∧ -f.X ≤ rkV f v := fun {v} q => by
        have a1 := (leq_end hf q (show EndOk f (.inf 0) from ⟨.inl rfl, trivial, rfl⟩)).mpr (leq_top (end_ok hf q.ok).ve)
        have a2 := (leq_end hf (show EndOk f (.inf 1) from ⟨.inr rfl, trivial, rfl⟩) q).mpr (leq_bot (end_ok hf q.ok).ve)
        have a1 := of_decide_eq_false a1
        have a2 := of_decide_eq_false a2
        have e1 : rkV f (.inf 0) = f.X := rfl
        have e2 : rkV f (.inf 1) = -f.X := rfl
        omega
      have bx := bX k.a
      have by' := bX k.b
      have fd : (rkV f x + rkV f y).fdiv 2 = (rkV f x + rkV f y) / 2 := Int.fdiv_eq_ediv_of_nonneg _ (by decide)
      have m1 : rkV f x < (rkV f x + rkV f y).fdiv 2 ∧ (rkV f x + rkV f y).fdiv 2 < rkV f y := by
        rw [fd]
        omega
      obtain ⟨m, em, km, rm, nm⟩ := at_end hf (r := (rkV f x + rkV f y).fdiv 2) (by omega)
      have nm := nm (by omega)
      have e : midV f (.sp x y) = some m := by
        show (if rkV f y - rkV f x < 2 then none else atV f ((rkV f x + rkV f y).fdiv 2)) = _
        rw [if_neg (by omega), em]
      have ok1 : SpanOk f (.sp x m) := show SpOk f x m from ⟨k.a, km, k.na, nm 1⟩
      have ok2 : SpanOk f (.sp m y) := show SpOk f m y from ⟨km, k.b, nm 0, k.nb⟩
      refine ⟨some ((ss.take i ++ [Sp.sp x m]) ++ ss.drop (i + 1), (ss.take i ++ [Sp.sp m y]) ++ ss.drop (i + 1)), ⟨some i, hw0, x, y, m, hs, e, rfl⟩, ?_, fun h1 h2 q => ?_⟩
      · unfold partD
        dsimp only
        rw [e]
        rfl
      · cases q
        exact ⟨set_inB b o hs ⟨ok1, (ord_rk hf ok1).mpr (by omega)⟩ (lies_rk.mpr (by omega)), set_inB b o hs ⟨ok2, (ord_rk hf ok2).mpr (by omega)⟩ (lies_rk.mpr (by omega))⟩
/-- the parts of a drawn program and of a box -/
structure PrB (f : Fm) (l : List Stp) (ss : List Sp) : Prop where
  box : BoxOk f ss
  oo : ∀ s ∈ ss, SpOO f s
  so : ∀ (i : Nat) st, l[i]? = some st → StW st i ss.length ∧ TldOk st
  one : 1 ≤ l.length
  many : l.length ≤ 1000
theorem PrB.half {f : Fm} {l : List Stp} {ss hs : List Sp} (b : PrB f l ss) (i : InB f ss hs) : PrB f l hs := ⟨i.box, i.ok, fun j st h => by rw [← i.len]; exact b.so j st h, b.one, b.many⟩
theorem PrB.self {f : Fm} {l : List Stp} {ss : List Sp} (b : PrB f l ss) : InB f ss ss := InB.refl b.box fun s h => (b.oo s h).2
/-- the halves of a box -/
theorem PrB.halves {f : Fm} (hf : FmOk f) {l : List Stp} {ss h1 h2 : List Sp} (b : PrB f l ss) (h : HalP f ss (some (h1, h2))) : InB f ss h1 ∧ InB f ss h2 := by
  obtain ⟨w, hw, q⟩ := h
  cases w with
  | none => cases q
  | some i =>
    obtain ⟨x, y, m, e1, e2, e3⟩ := q
    have ht : HalTo f ss (partD f ss i (.sp x y)) := ⟨some i, hw, _, e1, rfl⟩
    obtain ⟨p, hp, _, k⟩ := hal_to hf b.box (fun s h => (b.oo s h).2) ht
    have e := halP_uniq hp ⟨some i, hw, x, y, m, e1, e2, e3⟩
    exact k _ _ e
end VI

/-! PL61: what is left of a box (k75). -/
namespace VI
open PySem
end VI

/-! PL62: digits of ints, tops of sizes, integers by ways (k42). -/
namespace VI
open PySem
def digN (i : Int) : Nat := (toString i).length
theorem dig_eq (n : Nat) : digN (n : Int) = (Nat.toDigits 10 n).length := by
  show (Nat.repr n).length = _
  rw [Nat.repr_eq_ofList_toDigits, String.length_ofList]
theorem dig_pos {n : Int} (h : 0 ≤ n) : 1 ≤ digN n := by
  obtain ⟨m, rfl⟩ : ∃ m : Nat, n = m := ⟨n.toNat, by omega⟩
  rw [dig_eq]
  exact Nat.length_toDigits_pos
theorem dig_iff {n : Int} (h : 0 ≤ n) {k : Nat} (hk : 0 < k) : digN n ≤ k ↔ n < (10 : Int) ^ k := by
  obtain ⟨m, rfl⟩ : ∃ m : Nat, n = m := ⟨n.toNat, by omega⟩
  rw [dig_eq, Nat.length_toDigits_le_iff (by decide) hk]
  constructor
  · intro q
    exact_mod_cast q
  · intro q
    exact_mod_cast q
theorem dig_lt {n : Int} (h : 0 ≤ n) : n < (10 : Int) ^ digN n := (dig_iff h (dig_pos h)).mp (Nat.le_refl _)
theorem dig_ge {n : Int} (h : 1 ≤ n) : (10 : Int) ^ (digN n - 1) ≤ n := by
  by_cases z : digN n - 1 = 0
  · rw [z]
    simpa using h
  · have q := dig_iff (show 0 ≤ n by omega) (k := digN n - 1) (by omega)
    have : ¬ n < (10 : Int) ^ (digN n - 1) := fun w => by
      have := q.mpr w
      omega
    omega
theorem dig_str (i : Int) : (Str.ofString (toString i)).length = digN i := (PySem.ofString_length _).trans (by simp [digN])
theorem ten2 : (2 : Int) ≤ 10 := by decide
/-- the power of ten above a size -/
def TopD (w : Rat) (t : Int) : Prop := bp 10 (t - 1) ≤ w ∧ w < bp 10 t
theorem top_lo {n d : Int} (hn : 1 ≤ n) (hd : 1 ≤ d) : bp 10 ((digN n : Int) - digN d - 1) ≤ wo (n, d) := by
  have h := (wo_ge ten2 (n := n) (d := d) (by omega) 1 ((digN n : Int) - digN d - 1)).mpr
  simp only [Int.one_mul] at h
  refine Rat.le_trans (by simp) (h ?_)
  have a := dig_ge hn
  have b := dig_lt (show 0 ≤ d by omega)
  have c := dig_pos (show 0 ≤ n by omega)
  obtain ⟨p, hp⟩ : ∃ p, p = (max 0 ((digN n : Int) - digN d - 1)).toNat := ⟨_, rfl⟩
  obtain ⟨m, hm⟩ : ∃ m, m = (max 0 (-((digN n : Int) - digN d - 1))).toNat := ⟨_, rfl⟩
  rw [← hp, ← hm]
  have e : digN d + p = digN n - 1 + m := by omega
  have p1 : 0 < (10 : Int) ^ p := Int.pow_pos (by decide)
  have p2 : 0 < (10 : Int) ^ m := Int.pow_pos (by decide)
  have x := Int.mul_le_mul_of_nonneg_right (show d ≤ (10 : Int) ^ digN d by omega) (show 0 ≤ (10 : Int) ^ p by omega)
  have y := Int.mul_le_mul_of_nonneg_right a (show 0 ≤ (10 : Int) ^ m by omega)
  rw [← Int.pow_add] at x y
  rw [e] at x
  exact Int.le_trans x y
theorem top_hi {n d : Int} (hn : 0 ≤ n) (hd : 1 ≤ d) : wo (n, d) < bp 10 ((digN n : Int) - digN d + 1) := by
  have h := (wo_gt ten2 (n := n) (d := d) (by omega) 1 ((digN n : Int) - digN d + 1)).mpr
  simp only [Int.one_mul] at h
  refine Std.lt_of_lt_of_le (h ?_) (by simp)
  have a := dig_lt hn
  have b := dig_ge hd
  have c := dig_pos (show 0 ≤ d by omega)
  obtain ⟨p, hp⟩ : ∃ p, p = (max 0 ((digN n : Int) - digN d + 1)).toNat := ⟨_, rfl⟩
  obtain ⟨m, hm⟩ : ∃ m, m = (max 0 (-((digN n : Int) - digN d + 1))).toNat := ⟨_, rfl⟩
  rw [← hp, ← hm]
  have e : digN d - 1 + p = digN n + m := by omega
  have p1 : 0 < (10 : Int) ^ p := Int.pow_pos (by decide)
  have p2 : 0 < (10 : Int) ^ m := Int.pow_pos (by decide)
  have x := Int.mul_le_mul_of_nonneg_right b (show 0 ≤ (10 : Int) ^ p by omega)
  have y := Int.mul_lt_mul_of_pos_right a p2
  rw [← Int.pow_add] at x y
  rw [e] at x
  exact Int.lt_of_lt_of_le y x
theorem top_start {n d t : Int} (hn : 1 ≤ n) (hd : 1 ≤ d) (h : TopD (wo (n, d)) t) : (digN n : Int) - digN d ≤ t ∧ t ≤ (digN n : Int) - digN d + 1 := by
  have a := top_lo hn hd
  have b := top_hi (show 0 ≤ n by omega) hd
  constructor
  · apply Classical.byContradiction
    intro z
    have := bp_mono ten2 (show t ≤ (digN n : Int) - digN d - 1 by omega)
    exact absurd (Std.lt_of_lt_of_le h.2 (Rat.le_trans this a)) (Rat.not_lt.mpr Rat.le_refl)
  · apply Classical.byContradiction
    intro z
    have := bp_mono ten2 (show (digN n : Int) - digN d + 1 ≤ t - 1 by omega)
    exact absurd (Std.lt_of_lt_of_le b (Rat.le_trans this h.1)) (Rat.not_lt.mpr Rat.le_refl)
theorem top_exists {n d : Int} (hn : 1 ≤ n) (hd : 1 ≤ d) : ∃ t, TopD (wo (n, d)) t := by
  have a := top_lo hn hd
  have b := top_hi (show 0 ≤ n by omega) hd
  by_cases z : bp 10 ((digN n : Int) - digN d) ≤ wo (n, d)
  · exact ⟨(digN n : Int) - digN d + 1, by rw [show (digN n : Int) - digN d + 1 - 1 = (digN n : Int) - digN d by omega]; exact z, b⟩
  · exact ⟨(digN n : Int) - digN d, a, Rat.not_le.mp z⟩
end VI

/-! PL63: formats of decimals, sizes, told digits (k42). -/
namespace VI
open PySem
structure FmD (f : Fm) : Prop where
  b2 : 2 ≤ f.b
  b36 : f.b ≤ 36
  p2 : 2 ≤ f.p
  p120 : f.p ≤ 120
  lh : f.lo ≤ f.hi
  l : -1300 ≤ f.lo
  h : f.hi ≤ 1300
  bp : Bd 640 (f.b ^ f.p.toNat)
  bl : Bd 4400 (f.b ^ f.lo.natAbs)
  bh : Bd 4400 (f.b ^ f.hi.natAbs)
def fmDB (f : Fm) : Bool := decide (2 ≤ f.b) && decide (f.b ≤ 36) && decide (2 ≤ f.p) && decide (f.p ≤ 120) && decide (f.lo ≤ f.hi) && decide (-1300 ≤ f.lo) && decide (f.hi ≤ 1300) &&
  decide ((f.b ^ f.p.toNat).natAbs < 2 ^ 640) && decide ((f.b ^ f.lo.natAbs).natAbs < 2 ^ 4400) && decide ((f.b ^ f.hi.natAbs).natAbs < 2 ^ 4400)
theorem fmD_of {f : Fm} (h : fmDB f = true) : FmD f := by
  unfold fmDB at h
  simp only [Bool.and_eq_true, decide_eq_true_eq] at h
  obtain ⟨⟨⟨⟨⟨⟨⟨⟨⟨h1, h2⟩, h3⟩, h4⟩, h5⟩, h6⟩, h7⟩, h8⟩, h9⟩, h10⟩ := h
  exact ⟨h1, h2, h3, h4, h5, h6, h7, h8, h9, h10⟩
def dfS : List Fm := [⟨2, 3, -2, 1⟩, ⟨10, 2, -2, 0⟩, ⟨4, 3, -3, 3⟩, ⟨2, 2, 0, 0⟩, ⟨6, 4, -10, 8⟩, ⟨36, 2, -3, 2⟩, ⟨2, 5, -9, 9⟩]
def dfW : List Fm := [⟨2, 11, -24, 5⟩, ⟨2, 24, -149, 104⟩, ⟨2, 53, -1074, 971⟩, ⟨10, 7, -101, 90⟩, ⟨16, 6, -70, 57⟩, ⟨10, 16, -398, 369⟩, ⟨2, 64, 30, 90⟩, ⟨10, 40, -60, -50⟩, ⟨12, 9, -1200, -1190⟩]
theorem fmD_all : ∀ f ∈ dfS ++ dfW, FmD f := fun f h => fmD_of ((List.all_eq_true.mp (show (dfS ++ dfW).all fmDB = true by decide +kernel)) f h)
theorem FmD.pw {f : Fm} (h : FmD f) {e : Int} (h0 : 0 ≤ e) (h1 : e ≤ 1300) : ∃ k, Bd k f.b ∧ 0 ≤ e ∧ k * (4 * e.toNat + 4) ≤ 900000 := by
  have a := h.b2
  have b := h.b36
  exact ⟨6, by unfold Bd; omega, h0, by omega⟩
theorem FmD.F {f : Fm} (h : FmD f) : 2 ≤ f.F ∧ f.T = f.b * f.F ∧ f.F < f.T ∧ Bd 640 f.F := by
  have b2 := h.b2
  have p2 := h.p2
  have p0 := powI_pos b2 (f.p - 1).toNat
  have e : f.T = f.b * f.F := by
    show f.b ^ f.p.toNat = f.b * f.b ^ (f.p - 1).toNat
    rw [show f.p.toNat = (f.p - 1).toNat + 1 by omega, Int.pow_succ, Int.mul_comm]
  have f2 : 2 ≤ f.F := by
    have := two_pow_le b2 (f.p - 1).toNat
    have q := pow_le_pow (b := 2) (by decide) (show 1 ≤ (f.p - 1).toNat by omega)
    have : (2 : Int) ^ (f.p - 1).toNat ≤ f.F := this
    omega
  have l : f.F < f.T := by
    rw [e]
    have := Int.mul_le_mul_of_nonneg_right b2 (show 0 ≤ f.F by omega)
    omega
  exact ⟨f2, e, l, h.bp.of_natAbs (by show f.F.natAbs ≤ f.T.natAbs; omega)⟩
/-- a part of a size: numerator, denominator -/
structure SzOk (n d : Int) : Prop where
  n0 : 0 ≤ n
  d1 : 1 ≤ d
  bn : Bd 5040 n
  bd : Bd 4400 d
  one : d = 1 ∨ Bd 640 n
def lsz (f : Fm) (c e : Int) : P2 := (c * (powP f.b e).1, (powP f.b e).2)
theorem FmD.pP {f : Fm} (h : FmD f) {e : Int} (h0 : f.lo ≤ e) (h1 : e ≤ f.hi) : Bd 4400 (powP f.b e).1 ∧ Bd 4400 (powP f.b e).2 ∧ 1 ≤ (powP f.b e).1 ∧ 1 ≤ (powP f.b e).2 ∧ ((powP f.b e).2 = 1 ∨ (powP f.b e).1 = 1) := by
  have b2 := h.b2
  have one : Bd 4400 (1 : Int) := (Bd.lit64 1 (by decide)).up (by decide)
  have mono : ∀ {x y : Nat}, x ≤ y → (f.b ^ x).natAbs ≤ (f.b ^ y).natAbs := fun {x y} q => by
    have a := pow_le_pow b2 q
    have p := powI_pos b2 x
    omega
  have p := powI_pos b2 e.toNat
  have q := powI_pos b2 (-e).toNat
  unfold powP
  split
  · exact ⟨h.bh.of_natAbs (mono (by omega)), one, by show 1 ≤ f.b ^ e.toNat; omega, Int.le_refl _, .inl rfl⟩
  · exact ⟨one, h.bl.of_natAbs (mono (by omega)), Int.le_refl _, by show 1 ≤ f.b ^ (-e).toNat; omega, .inr rfl⟩
theorem FmD.sz {f : Fm} (h : FmD f) {s c e : Int} (n : NumOk f s c e) : SzOk (lsz f c e).1 (lsz f c e).2 := by
  obtain ⟨a, b, c1, d, o⟩ := h.pP n.e1 n.e2
  have bc : Bd 640 c := h.bp.of_natAbs (by have := n.c0; have q : c < f.T := n.c1; show c.natAbs ≤ f.T.natAbs; omega)
  refine ⟨Int.mul_nonneg n.c0 (by omega), d, bc.mul a, b, ?_⟩
  rcases o with o | o
  · exact .inl o
  · right
    show Bd 640 (c * (powP f.b e).1)
    rw [o, Int.mul_one]
    exact bc
theorem lsz_wo {f : Fm} (hb : 2 ≤ f.b) (c e : Int) : wo (lsz f c e) = (c : Rat) * bp f.b e := by
  have h := powP_can hb e
  unfold bp wo lsz
  show ((c * (powP f.b e).1 : Int) : Rat) / _ = _
  rw [Rat.div_def, Rat.div_def]
  push_cast
  grind
/-- powers of ten -/
theorem ten_pow {e : Int} (h : e.natAbs ≤ 2000) : Bd 8000 (powP 10 e).1 ∧ Bd 8000 (powP 10 e).2 ∧ 1 ≤ (powP 10 e).1 ∧ 1 ≤ (powP 10 e).2 ∧ ((powP 10 e).2 = 1 ∨ (powP 10 e).1 = 1) := by
  have bt : Bd 4 (10 : Int) := by unfold Bd; decide
  have one : Bd 8000 (1 : Int) := (Bd.lit64 1 (by decide)).up (by decide)
  have p := powI_pos ten2 e.toNat
  have q := powI_pos ten2 (-e).toNat
  have up : ∀ n : Nat, n ≤ 1999 → Bd 8000 ((10 : Int) ^ n) := fun n hn => (bt.pow n).up (by omega)
  have up2 : ∀ n : Nat, n ≤ 2000 → Bd 8000 ((10 : Int) ^ n) := fun n hn => by
    by_cases z : n ≤ 1999
    · exact up n z
    · have z : n = 2000 := by omega
      rw [z]
      unfold Bd
      decide +kernel
  unfold powP
  split
  · exact ⟨up2 _ (by omega), one, by show (1 : Int) ≤ 10 ^ e.toNat; omega, Int.le_refl _, .inl rfl⟩
  · exact ⟨one, up2 _ (by omega), Int.le_refl _, by show (1 : Int) ≤ 10 ^ (-e).toNat; omega, .inr rfl⟩
/-- a size over a power of ten -/
def szN (n E : Int) : Int := n * (powP 10 E).2
def szD (d E : Int) : Int := d * (powP 10 E).1
theorem sz_wo {n d E : Int} (hd : 1 ≤ d) : wo (szN n E, szD d E) = wo (n, d) / bp 10 E := by
  have h := powP_can ten2 E
  have d0 : (d : Rat) ≠ 0 := rat_ne (by omega)
  unfold bp wo szN szD
  show ((n * (powP 10 E).2 : Int) : Rat) / ((d * (powP 10 E).1 : Int) : Rat) = ((n : Int) : Rat) / (d : Rat) / (((powP 10 E).1 : Rat) / ((powP 10 E).2 : Rat))
  simp only [Rat.div_def, Rat.inv_mul_rev, Rat.inv_inv]
  push_cast
  simp only [Rat.inv_mul_rev]
  grind
theorem below_iff0 {a b c d : Int} (hb : 0 < b) (hd : 0 < d) : a * d < c * b ↔ wo (a, b) < wo (c, d) := by
  have B : (0 : Rat) < b := by exact_mod_cast hb
  have D : (0 : Rat) < d := by exact_mod_cast hd
  unfold wo
  show _ ↔ (a : Rat) / (b : Rat) < (c : Rat) / (d : Rat)
  have b0 : (b : Rat) ≠ 0 := rat_ne (by omega)
  have d0 : (d : Rat) ≠ 0 := rat_ne (by omega)
  rw [← Rat.mul_lt_mul_right (Rat.mul_pos B D)]
  have e1 : (a : Rat) / b * (b * d) = a * d := by
    rw [Rat.div_def]
    have := Rat.inv_mul_cancel _ b0
    grind
  have e2 : (c : Rat) / d * (b * d) = c * b := by
    rw [Rat.div_def]
    have := Rat.inv_mul_cancel _ d0
    grind
  rw [e1, e2]
  constructor
  · intro h
    exact_mod_cast h
  · intro h
    exact_mod_cast h
theorem str_ok {i : Int} (h : Bd 14000 i) : BigOk i := h.show (by decide)
theorem bd_one' {k : Nat} (h : 2 ≤ k) : Bd k (1 : Int) := (show Bd 2 (1 : Int) by unfold Bd; decide).up h
end VI

/-! PL64: rounding at the formats of decimals, of any size (k34). -/
namespace VI
open PySem
/-- the side of a size -/
def SideD (b : Int) (w : Rat) (c e : Int) : Option Int → Prop
  | none => (c : Rat) * bp b e = w
  | some z => (c : Rat) * bp b e < w ∧ ((z = 1 ∧ ((2 * c + 1 : Int) : Rat) * bp b e < 2 * w) ∨ (z = 0 ∧ ((2 * c + 1 : Int) : Rat) * bp b e = 2 * w) ∨ (z = -1 ∧ 2 * w < ((2 * c + 1 : Int) : Rat) * bp b e))
/-- a size by its lower neighbour -/
structure PartD (f : Fm) (w : Rat) (c e : Int) (sd : Option Int) : Prop where
  e0 : f.lo ≤ e
  c0 : 0 ≤ c
  c1 : c < f.T
  cF : e = f.lo ∨ f.F ≤ c
  le : (c : Rat) * bp f.b e ≤ w
  lt : w < ((c + 1 : Int) : Rat) * bp f.b e
  sd : SideD f.b w c e sd
theorem FmD.T_eq {f : Fm} (h : FmD f) : f.T = f.b * f.F := h.F.2.1
theorem part_eD {f : Fm} (hf : FmD f) {w : Rat} {k : Int} (h1 : bp f.b k ≤ w) (h2 : w < bp f.b (k + 1)) : w < (f.T : Rat) * bp f.b (max f.lo (k - f.p + 1)) ∧ (max f.lo (k - f.p + 1) = f.lo ∨ (f.T : Rat) * bp f.b (max f.lo (k - f.p + 1) - 1) ≤ w) := by
  have hp := hf.p2
  have hT : ∀ e : Int, (f.T : Rat) * bp f.b e = bp f.b (e + f.p) := fun e => by
    have := bp_up hf.b2 e f.p.toNat
    rw [show e + ((f.p.toNat : Nat) : Int) = e + f.p by omega] at this
    rw [this]
    rfl
  rw [hT, hT]
  by_cases h : f.lo ≤ k - f.p + 1
  · rw [show max f.lo (k - f.p + 1) = k - f.p + 1 by omega, show k - f.p + 1 + f.p = k + 1 by omega, show k - f.p + 1 - 1 + f.p = k by omega]
    exact ⟨h2, .inr h1⟩
  · rw [show max f.lo (k - f.p + 1) = f.lo by omega]
    refine ⟨?_, .inl rfl⟩
    exact Std.lt_of_lt_of_le h2 (bp_mono hf.b2 (by omega))
theorem grid_floorD {f : Fm} (hf : FmD f) {n d e : Int} (hd : 0 < d) (hn : 0 ≤ n) (h1 : wo (n, d) < (f.T : Rat) * bp f.b e) (h2 : e = f.lo ∨ (f.T : Rat) * bp f.b (e - 1) ≤ wo (n, d)) :
    ∃ c : Int, (n * f.b ^ (max 0 (-e)).toNat).fdiv (d * f.b ^ (max 0 e).toNat) = c ∧ 0 ≤ c ∧ c < f.T ∧ (e = f.lo ∨ f.F ≤ c) ∧ (c : Rat) * bp f.b e ≤ wo (n, d) ∧ wo (n, d) < ((c + 1 : Int) : Rat) * bp f.b e := by
  have hD : 0 < d * f.b ^ (max 0 e).toNat := Int.mul_pos hd (powI_pos hf.b2 _)
  obtain ⟨c, r, a, b, r0, r1⟩ := fdiv_parts (n := n * f.b ^ (max 0 (-e)).toNat) hD
  have l1 : (c : Rat) * bp f.b e ≤ wo (n, d) := (wo_ge hf.b2 hd c e).mpr (by rw [b]; omega)
  have l2 : wo (n, d) < ((c + 1 : Int) : Rat) * bp f.b e := (wo_gt hf.b2 hd (c + 1) e).mpr (by rw [b, Int.add_mul]; omega)
  refine ⟨c, a, ?_, bp_lt hf.b2 l1 h1, ?_, l1, l2⟩
  · have hN : 0 ≤ n * f.b ^ (max 0 (-e)).toNat := Int.mul_nonneg hn (by have := powI_pos hf.b2 (max 0 (-e)).toNat; omega)
    apply Int.not_lt.mp
    intro hc
    have : c * (d * f.b ^ (max 0 e).toNat) ≤ -1 * (d * f.b ^ (max 0 e).toNat) := Int.mul_le_mul_of_nonneg_right (by omega) (by omega)
    omega
  · rcases h2 with h2 | h2
    · exact .inl h2
    · right
      have e1 : (f.T : Rat) * bp f.b (e - 1) = (f.F : Rat) * bp f.b e := by
        have := bp_one hf.b2 (e - 1)
        rw [show e - 1 + 1 = e by omega] at this
        rw [this, hf.T_eq]
        push_cast
        grind
      rw [e1] at h2
      have := bp_lt hf.b2 h2 l2
      omega
theorem low_ltD {f : Fm} (hf : FmD f) {c e c' e' : Int} (he : e' < e) (hF : f.F ≤ c) (h' : c' + 1 ≤ f.T) : ((c' + 1 : Int) : Rat) * bp f.b e' ≤ (c : Rat) * bp f.b e := by
  have e1 := bp_split hf.b2 (show e' + 1 ≤ e by omega)
  rw [e1, bp_one hf.b2]
  have e2 : (c : Rat) * (((f.b ^ (e - (e' + 1)).toNat : Int) : Rat) * ((f.b : Rat) * bp f.b e')) = ((c * f.b * f.b ^ (e - (e' + 1)).toNat : Int) : Rat) * bp f.b e' := by
    push_cast
    grind
  rw [e2, ← Rat.not_lt, Rat.mul_lt_mul_right (bp_pos hf.b2 e')]
  have hle : c' + 1 ≤ c * f.b * f.b ^ (e - (e' + 1)).toNat := by
    have hT := hf.T_eq
    have hb := hf.b2
    have p := powI_pos hf.b2 (e - (e' + 1)).toNat
    have F0 := hf.F.1
    have a1 : f.F * f.b ≤ c * f.b := Int.mul_le_mul_of_nonneg_right hF (by omega)
    rw [Int.mul_comm f.F, ← hT] at a1
    have T0 := hf.F.2.2.1
    have a2 := Int.mul_le_mul_of_nonneg_left (show (1 : Int) ≤ f.b ^ (e - (e' + 1)).toNat by omega) (show (0 : Int) ≤ c * f.b by omega)
    omega
  intro z
  have : c * f.b * f.b ^ (e - (e' + 1)).toNat < c' + 1 := by exact_mod_cast z
  omega
theorem partD_uniq {f : Fm} (hf : FmD f) {w : Rat} {c e c' e' : Int} {sd sd' : Option Int} (h : PartD f w c e sd) (h' : PartD f w c' e' sd') : c = c' ∧ e = e' ∧ sd = sd' := by
  have noLess : ∀ {c e c' e' : Int} {sd sd' : Option Int}, PartD f w c e sd → PartD f w c' e' sd' → ¬ e' < e := fun {c e c' e' sd sd'} h h' z => by
    have hF : f.F ≤ c := by
      rcases h.cF with q | q
      · have := h'.e0
        omega
      · exact q
    have := low_ltD hf (c' := c') z hF (by have := h'.c1; omega)
    exact absurd (Std.lt_of_lt_of_le h'.lt (Rat.le_trans this h.le)) Rat.lt_irrefl
  have he : e = e' := by
    have a := noLess h h'
    have b := noLess h' h
    omega
  subst he
  have a := bp_lt hf.b2 h.le h'.lt
  have b := bp_lt hf.b2 h'.le h.lt
  have hc : c = c' := by omega
  subst hc
  refine ⟨rfl, rfl, ?_⟩
  have s := h.sd
  have s' := h'.sd
  cases sd with
  | none =>
    cases sd' with
    | none => rfl
    | some z =>
      have s : (c : Rat) * bp f.b e = w := s
      have s' := s'.1
      rw [s] at s'
      exact absurd s' Rat.lt_irrefl
  | some z =>
    cases sd' with
    | none =>
      have s' : (c : Rat) * bp f.b e = w := s'
      have s := s.1
      rw [s'] at s
      exact absurd s Rat.lt_irrefl
    | some z' =>
      have s := s.2
      have s' := s'.2
      congr 1
      rcases s with ⟨rfl, a⟩ | ⟨rfl, a⟩ | ⟨rfl, a⟩ <;> rcases s' with ⟨rfl, b⟩ | ⟨rfl, b⟩ | ⟨rfl, b⟩ <;> first | rfl | (exfalso; grind)
/-- beyond all numbers -/
theorem partD_big {f : Fm} (hf : FmD f) {w : Rat} {c e : Int} {sd : Option Int} (h : PartD f w c e sd) (hw : (f.T : Rat) * bp f.b f.hi ≤ w) : f.hi < e := by
  apply Classical.byContradiction
  intro z
  have h1 := h.lt
  have h2 : ((c + 1 : Int) : Rat) * bp f.b e ≤ (f.T : Rat) * bp f.b f.hi := by
    have a : ((c + 1 : Int) : Rat) * bp f.b e ≤ (f.T : Rat) * bp f.b e := by
      refine Rat.mul_le_mul_of_nonneg_right ?_ (Rat.le_of_lt (bp_pos hf.b2 e))
      have := h.c1
      exact_mod_cast (show c + 1 ≤ f.T by omega)
    refine Rat.le_trans a (Rat.mul_le_mul_of_nonneg_left (bp_mono hf.b2 (by omega)) ?_)
    have := hf.F
    exact_mod_cast (show (0 : Int) ≤ f.T by omega)
  exact absurd (Std.lt_of_lt_of_le h1 (Rat.le_trans h2 hw)) Rat.lt_irrefl
theorem fin_big {f : Fm} {way : Str} {s c e c' e' : Int} {sd sd' : Option Int} (h : f.hi < e) (h' : f.hi < e') : finD f way s c e sd = finD f way s c' e' sd' := by
  have k : ∀ (c e : Int) (sd : Option Int), f.hi < e → f.hi < (upC f way s c e sd).2 := fun c e sd h => by
    unfold upC
    split
    · unfold uN
      split
      · show f.hi < e + 1
        omega
      · exact h
    · exact h
  unfold finD finV finG
  rw [if_pos (k c e sd h), if_pos (k c' e' sd' h'), if_pos (k c e sd h), if_pos (k c' e' sd' h')]
/-- below half of the least unit -/
theorem partD_small {f : Fm} (hf : FmD f) {w : Rat} {c e : Int} {sd : Option Int} (h : PartD f w c e sd) (h0 : 0 < w) (hw : 2 * w < bp f.b f.lo) : c = 0 ∧ e = f.lo ∧ sd = some (-1) := by
  have p := bp_pos hf.b2 f.lo
  refine partD_uniq hf h ⟨Int.le_refl _, Int.le_refl _, by have := hf.F; omega, .inl rfl, ?_, ?_, ?_⟩
  · simpa using Rat.le_of_lt h0
  · have : (((0 : Int) + 1 : Int) : Rat) * bp f.b f.lo = bp f.b f.lo := by simp
    rw [this]
    grind
  · refine ⟨by simpa using h0, .inr (.inr ⟨rfl, ?_⟩)⟩
    have : ((2 * (0 : Int) + 1 : Int) : Rat) * bp f.b f.lo = bp f.b f.lo := by simp
    rw [this]
    exact hw
/-- a size rounded -/
def RndD (f : Fm) (way : Str) (s : Int) (w : Rat) (d : D) : Prop := ∃ c e sd, PartD f w c e sd ∧ d = finD f way s c e sd
theorem rndD_uniq {f : Fm} (hf : FmD f) {way : Str} {s : Int} {w : Rat} {d d' : D} : RndD f way s w d → RndD f way s w d' → d = d'
  | ⟨c, e, sd, h, x⟩, ⟨c', e', sd', h', x'⟩ => by
    obtain ⟨rfl, rfl, rfl⟩ := partD_uniq hf h h'
    rw [x, x']
theorem rndD_big {f : Fm} (hf : FmD f) {way : Str} {s : Int} {w w' : Rat} {d d' : D} (hw : (f.T : Rat) * bp f.b f.hi ≤ w) (hw' : (f.T : Rat) * bp f.b f.hi ≤ w') : RndD f way s w d → RndD f way s w' d' → d = d'
  | ⟨c, e, sd, h, x⟩, ⟨c', e', sd', h', x'⟩ => by rw [x, x', fin_big (partD_big hf h hw) (partD_big hf h' hw')]
theorem rndD_small {f : Fm} (hf : FmD f) {way : Str} {s : Int} {w w' : Rat} {d d' : D} (h0 : 0 < w) (hw : 2 * w < bp f.b f.lo) (h0' : 0 < w') (hw' : 2 * w' < bp f.b f.lo) : RndD f way s w d → RndD f way s w' d' → d = d'
  | ⟨c, e, sd, h, x⟩, ⟨c', e', sd', h', x'⟩ => by
    obtain ⟨rfl, rfl, rfl⟩ := partD_small hf h h0 hw
    obtain ⟨rfl, rfl, rfl⟩ := partD_small hf h' h0' hw'
    rw [x, x']
/-- long ints that may be reduced: also a short one over a long one -/
def RedX (n d : Int) : Prop := RedOk n d ∨ (d ≠ 0 ∧ Bd 8990 n)
theorem RedX.ne {n d : Int} (h : RedX n d) : d ≠ 0 := h.elim RedOk.ne (·.1)
theorem RedX.dv {n d g : Int} (h : RedX n d) (hg : g.natAbs = Int.gcd n d) : (g ≠ 0 ∧ (g.natAbs.log2 < 9000 ∨ n.natAbs.log2 ≤ g.natAbs.log2 + 4400)) ∧ (g ≠ 0 ∧ (g.natAbs.log2 < 9000 ∨ d.natAbs.log2 ≤ g.natAbs.log2 + 4400)) := by
  rcases h with h | ⟨h0, hb⟩
  · exact h.dv hg
  · have g0 : g ≠ 0 := fun e => h0 (Int.gcd_eq_zero_iff.mp (by rw [← hg, e]; rfl)).2
    by_cases z : n = 0
    · subst z
      rw [Int.gcd_zero_left] at hg
      exact ⟨⟨g0, .inr (by rw [show (0 : Int).natAbs.log2 = 0 from rfl]; exact Nat.zero_le _)⟩, ⟨g0, .inr (by rw [hg]; omega)⟩⟩
    · have l : g.natAbs ≤ n.natAbs := by
        rw [hg]
        exact Nat.le_of_dvd (by omega) (Int.gcd_dvd_natAbs_left n d)
      have := ((hb.of_natAbs l).divOk g0 (by decide)).2
      exact ⟨⟨g0, .inl this⟩, ⟨g0, .inl this⟩⟩
end VI

/-! PL65: decimals read (k34). -/
namespace VI
open PySem
theorem ten_tight (k : Nat) : Bd (10 * (k / 3) + 11) ((10 : Int) ^ k) := by
  have h : (10 : Nat) ^ k < 2 ^ (10 * (k / 3) + 11) := by
    have e : k = 3 * (k / 3) + k % 3 := by omega
    have r : k % 3 < 3 := Nat.mod_lt _ (by decide)
    generalize k / 3 = q at *
    generalize k % 3 = m at *
    subst e
    rw [Nat.pow_add, Nat.pow_mul, Nat.pow_add, Nat.pow_mul]
    have a : ((10 : Nat) ^ 3) ^ q ≤ (2 ^ 10) ^ q := Nat.pow_le_pow_left (by decide) q
    have b : (10 : Nat) ^ m < 2 ^ 11 := Nat.lt_of_le_of_lt (Nat.pow_le_pow_right (by decide) (show m ≤ 2 by omega)) (by decide)
    exact Nat.lt_of_le_of_lt (Nat.mul_le_mul_right _ a) (Nat.mul_lt_mul_of_pos_left b (Nat.pow_pos (by decide)))
  show ((10 : Int) ^ k).natAbs < _
  rw [Int.natAbs_pow]
  exact h
def roomF (f : Fm) : Int := 2 * (f.p + f.lo.natAbs + f.hi.natAbs) + 4
def decD (s c e : Int) : D := .tuple [.int s, .int c, .int e]
def clipE (f : Fm) (c e : Int) : Int := max (min e (roomF f + 1 - digN c)) (-roomF f - 1 - digN c)
/-- a decimal that may be read -/
def RoomC (f : Fm) (c e : Int) : Prop := roomF f + digN c ≤ 5508 ∨ (e.natAbs ≤ 2008 ∧ digN c ≤ 1538)
/-- a drawn one -/
def RoomB (f : Fm) (c e : Int) : Prop := roomF f + digN c ≤ 5500 ∨ (e.natAbs ≤ 2000 ∧ digN c ≤ 1530)
/-- a decimal's worth -/
def dw (c e : Int) : Rat := (c : Rat) * bp 10 e
theorem thirty_six {b : Int} (h2 : 2 ≤ b) (h : b ≤ 36) (k : Nat) : b ^ k ≤ (10 : Int) ^ (2 * k) := by
  rw [Int.pow_mul]
  have : b ≤ (10 : Int) ^ 2 := by omega
  induction k with
  | zero => simp
  | succ k ih =>
    rw [Int.pow_succ, Int.pow_succ]
    have := powI_pos h2 k
    exact Int.mul_le_mul ih (by omega) (by omega) (by have := powI_pos (b := (10 : Int) ^ 2) (by decide) k; omega)
theorem top_room {f : Fm} (hf : FmD f) {m : Int} (hm : 2 * (f.p + f.hi.natAbs) ≤ m) : (f.T : Rat) * bp f.b f.hi ≤ bp 10 m := by
  have p2 := hf.p2
  have e1 : (f.T : Rat) * bp f.b f.hi = bp f.b (f.hi + f.p) := by
    have := bp_up hf.b2 f.hi f.p.toNat
    rw [show f.hi + ((f.p.toNat : Nat) : Int) = f.hi + f.p by omega] at this
    rw [this]
    rfl
  rw [e1]
  have k : bp f.b (f.hi + f.p) ≤ bp f.b (((f.p + f.hi.natAbs).toNat : Nat) : Int) := bp_mono hf.b2 (by omega)
  have k2 : bp f.b (((f.p + f.hi.natAbs).toNat : Nat) : Int) ≤ bp 10 ((2 * (f.p + f.hi.natAbs).toNat : Nat) : Int) := by
    have a := bp_up hf.b2 0 (f.p + f.hi.natAbs).toNat
    have b := bp_up ten2 0 (2 * (f.p + f.hi.natAbs).toNat)
    rw [bp_zero hf.b2, Rat.mul_one, Int.zero_add] at a
    rw [bp_zero ten2, Rat.mul_one, Int.zero_add] at b
    rw [a, b]
    exact_mod_cast thirty_six hf.b2 hf.b36 _
  exact Rat.le_trans k (Rat.le_trans k2 (bp_mono ten2 (by omega)))
theorem low_room {f : Fm} (hf : FmD f) {m : Int} (hm : 2 * (f.lo.natAbs : Int) ≤ m) : bp 10 (-m) ≤ bp f.b f.lo := by
  have k : bp f.b (-(f.lo.natAbs : Int)) ≤ bp f.b f.lo := bp_mono hf.b2 (by omega)
  refine Rat.le_trans ?_ k
  refine Rat.le_trans (bp_mono ten2 (show -m ≤ -((2 * f.lo.natAbs : Nat) : Int) by omega)) ?_
  have a := bp_up hf.b2 (-(f.lo.natAbs : Int)) f.lo.natAbs
  have b := bp_up ten2 (-((2 * f.lo.natAbs : Nat) : Int)) (2 * f.lo.natAbs)
  rw [Int.add_left_neg, bp_zero hf.b2] at a
  rw [Int.add_left_neg, bp_zero ten2] at b
  have h := thirty_six hf.b2 hf.b36 f.lo.natAbs
  have h : ((f.b ^ f.lo.natAbs : Int) : Rat) ≤ (((10 : Int) ^ (2 * f.lo.natAbs) : Int) : Rat) := by exact_mod_cast h
  have p1 := bp_pos hf.b2 (-(f.lo.natAbs : Int))
  have p2 := bp_pos ten2 (-((2 * f.lo.natAbs : Nat) : Int))
  generalize bp f.b (-(f.lo.natAbs : Int)) = X at *
  generalize bp 10 (-((2 * f.lo.natAbs : Nat) : Int)) = Y at *
  generalize ((f.b ^ f.lo.natAbs : Int) : Rat) = A at *
  generalize (((10 : Int) ^ (2 * f.lo.natAbs) : Int) : Rat) = B at *
  -- A X = 1 = B Y, A ≤ B
  rw [← Rat.not_lt]
  intro z
  have q1 : B * X < B * Y := by
    have B0 : 0 < B := by
      rw [← Rat.not_le]
      intro w
      have := Rat.mul_le_mul_of_nonneg_right w (Rat.le_of_lt p2)
      rw [← b, Rat.zero_mul] at this
      exact absurd this (by decide)
    rw [Rat.mul_comm B X, Rat.mul_comm B Y]
    exact (Rat.mul_lt_mul_right B0).mpr z
  have q2 := Rat.mul_le_mul_of_nonneg_right h (Rat.le_of_lt p1)
  rw [← a] at q2
  rw [← b] at q1
  exact absurd (Std.lt_of_lt_of_le q1 q2) Rat.lt_irrefl
theorem dw_dig {c e : Int} (hc : 1 ≤ c) : bp 10 (digN c - 1 + e) ≤ dw c e ∧ dw c e < bp 10 (digN c + e) := by
  have a := dig_ge hc
  have b := dig_lt (show 0 ≤ c by omega)
  have d := dig_pos (show 0 ≤ c by omega)
  have p := bp_pos ten2 e
  have u1 := bp_up ten2 e (digN c - 1)
  have u2 := bp_up ten2 e (digN c)
  rw [show e + ((digN c - 1 : Nat) : Int) = digN c - 1 + e by omega] at u1
  rw [show e + ((digN c : Nat) : Int) = digN c + e by omega] at u2
  rw [u1, u2]
  unfold dw
  refine ⟨Rat.mul_le_mul_of_nonneg_right (by exact_mod_cast a) (Rat.le_of_lt p), (Rat.mul_lt_mul_right p).mpr (by exact_mod_cast b)⟩
theorem dw_pos {c e : Int} (hc : 1 ≤ c) : 0 < dw c e := Rat.mul_pos (by exact_mod_cast hc) (bp_pos ten2 e)
/-- a clipped exponent rounds alike -/
theorem rnd_clip {f : Fm} (hf : FmD f) {way : Str} {s c e m E : Int} (hc : 1 ≤ c) (tr : (f.T : Rat) * bp f.b f.hi ≤ bp 10 m) (lr : bp 10 (-m) ≤ bp f.b f.lo) (h : E = e ∨ (e > E ∧ m + 1 - digN c ≤ E) ∨ (e < E ∧ E ≤ -m - 1 - digN c)) {d d' : D} (r : RndD f way s (dw c e) d) (r' : RndD f way s (dw c E) d') : d' = d := by
  rcases h with rfl | ⟨h1, h2⟩ | ⟨h1, h2⟩
  · exact rndD_uniq hf r' r
  · have big : ∀ x : Int, m + 1 - digN c ≤ x → (f.T : Rat) * bp f.b f.hi ≤ dw c x := fun x hx => Rat.le_trans (Rat.le_trans tr (bp_mono ten2 (show m ≤ digN c - 1 + x by omega))) (dw_dig hc).1
    exact rndD_big hf (big E h2) (big e (by omega)) r' r
  · have sm : ∀ x : Int, x ≤ -m - 1 - digN c → 2 * dw c x < bp f.b f.lo := fun x hx => by
      have a := (dw_dig (e := x) hc).2
      have b := bp_mono ten2 (show (digN c : Int) + x ≤ -m - 1 by omega)
      have l := lr
      have u := bp_up ten2 (-m - 1) 1
      rw [show -m - 1 + ((1 : Nat) : Int) = -m by omega] at u
      have u : bp 10 (-m) = 10 * bp 10 (-m - 1) := by rw [u]; simp
      have p := bp_pos ten2 (-m - 1)
      grind
    exact rndD_small hf (dw_pos hc) (sm E h2) (dw_pos hc) (sm e (by omega)) r' r
theorem clip_cases (f : Fm) (c e : Int) (h : 0 ≤ roomF f) : (clipE f c e = e ∨ (e > clipE f c e ∧ roomF f + 1 - digN c ≤ clipE f c e) ∨ (e < clipE f c e ∧ clipE f c e ≤ -roomF f - 1 - digN c)) ∧ -roomF f - 1 - digN c ≤ clipE f c e ∧ clipE f c e ≤ roomF f + 1 - digN c := by
  unfold clipE
  omega
/-- a decimal as a fraction -/
theorem wv_ten {s c e : Int} : mulP (if s = 1 then -c else c, 1) (powP 10 e) = wv 10 s c e := by
  refine wo_eq (nrm_can (by show (1 : Int) * (powP 10 e).2 ≠ 0; have := (powP_can ten2 e).pos; omega)) (wv_can ten2 s c e) ?_
  rw [wo_mul (can_int _) (powP_can ten2 e), wo_wv ten2, wo_int]
  unfold sg bp
  split
  · push_cast
    grind
  · rw [Int.one_mul]
theorem sgF_ten {b : Int} (hb : 2 ≤ b) {s c e : Int} (hs : s = 0 ∨ s = 1) (hc : 1 ≤ c) : sgF (wv b s c e) = s ∧ (wv b s c e).1 ≠ 0 := by
  have can := wv_can hb s c e
  have p : 0 < (c : Rat) * bp b e := Rat.mul_pos (by exact_mod_cast hc) (bp_pos hb e)
  have w := wo_wv hb s c e
  unfold sgF
  rcases hs with rfl | rfl
  · rw [show sg 0 = 1 from rfl, Int.one_mul] at w
    have := (below_iff can01 can).mpr (by rw [show wo (0, 1) = 0 from wo01, w]; exact p)
    have h : 0 * (wv b 0 c e).2 < (wv b 0 c e).1 * 1 := this
    refine ⟨by rw [if_neg (by omega)], by omega⟩
  · rw [show sg 1 = -1 from rfl] at w
    have := (below_iff can can01).mpr (by
      rw [show wo (0, 1) = 0 from wo01, w]
      push_cast
      grind)
    have h : (wv b 1 c e).1 * 1 < 0 * (wv b 1 c e).2 := this
    refine ⟨by rw [if_pos (by omega)], by omega⟩
/-- what comes of rounding is no number out of the format -/
theorem finV_cases {f : Fm} (hf : FmD f) {way : Str} {w : Rat} {s c e : Int} {sd : Option Int} (hs : s = 0 ∨ s = 1) (h : PartD f w c e sd) : finV f way s c e sd = .inf s ∨ ∃ c' e', finV f way s c e sd = .num s c' e' ∧ NumOk f s c' e' := by
  obtain ⟨F2, TF, FT, _⟩ := hf.F
  have lh := hf.lh
  unfold finV
  split
  · split
    · exact .inl rfl
    · refine .inr ⟨_, _, rfl, hs, lh, Int.le_refl _, by show 0 ≤ f.T - 1; omega, by show f.T - 1 < f.T; omega, .inr (by show f.F ≤ f.T - 1; omega)⟩
  · rename_i z
    refine .inr ⟨_, _, rfl, ?_⟩
    have e0 := h.e0
    have c0 := h.c0
    have c1 := h.c1
    have cF := h.cF
    unfold upC at z ⊢
    split at z
    · rename_i y
      rw [if_pos y]
      unfold uN at z ⊢
      split at z
      · rename_i x
        rw [if_pos x]
        exact ⟨hs, by show f.lo ≤ e + 1; omega, by show e + 1 ≤ f.hi; have z : ¬ f.hi < e + 1 := z; omega, by show 0 ≤ f.F; omega, FT, .inr (Int.le_refl _)⟩
      · rename_i x
        rw [if_neg x]
        refine ⟨hs, e0, by show e ≤ f.hi; have z : ¬ f.hi < e := z; omega, by show 0 ≤ c + 1; omega, by show c + 1 < f.T; omega, ?_⟩
        rcases cF with q | q
        · exact .inl q
        · exact .inr (by show f.F ≤ c + 1; omega)
    · rename_i y
      rw [if_neg y]
      exact ⟨hs, e0, by show e ≤ f.hi; have z : ¬ f.hi < e := z; omega, c0, c1, cF⟩
theorem fit_numD {f : Fm} (hf : FmD f) {s c e : Int} (h : NumOk f s c e) : Fit 2 18000 (vlD (.num s c e)) := by
  have l := hf.l
  have hh := hf.h
  have e1 := h.e1
  have e2 := h.e2
  have c0 := h.c0
  have c1 : c < f.T := h.c1
  exact fit_num h.s (Bd.up (k := 640) (hf.bp.of_natAbs (by show c.natAbs ≤ f.T.natAbs; omega)) (by decide)) (by omega)
theorem fit_infD {s : Int} (hs : s = 0 ∨ s = 1) : Fit 2 18000 (vlD (.inf s)) := by
  rcases hs with rfl | rfl <;> exact Fit.up (k := 2) (w := 200) (by constructor <;> decide +kernel) (by decide) (by decide)
theorem nat_lt_pow {b : Int} (hb : 2 ≤ b) (n : Nat) : (n : Int) < b ^ n := by
  have h := two_pow_le hb n
  have : (n : Int) < (2 : Int) ^ n := by
    have := Nat.lt_two_pow_self (n := n)
    exact_mod_cast this
  omega
theorem pow_existsD {b : Int} (hb : 2 ≤ b) {n d : Int} (hn : 1 ≤ n) (hd : 1 ≤ d) : ∃ k : Int, bp b k ≤ wo (n, d) ∧ wo (n, d) < bp b (k + 1) := by
  have lo : bp b (-d) ≤ wo (n, d) := by
    have h := (wo_ge hb (n := n) (d := d) (by omega) 1 (-d)).mpr
    simp only [Int.one_mul] at h
    refine Rat.le_trans (by simp) (h ?_)
    rw [show (max 0 (-d)).toNat = 0 by omega, Int.pow_zero, Int.mul_one, show max 0 (- -d) = d by omega]
    have a := nat_lt_pow hb d.toNat
    have b' := Int.mul_le_mul_of_nonneg_right hn (show 0 ≤ b ^ d.toNat by have := powI_pos hb d.toNat; omega)
    omega
  have hi : wo (n, d) < bp b n := by
    have h := (wo_gt hb (n := n) (d := d) (by omega) 1 n).mpr
    simp only [Int.one_mul] at h
    refine Std.lt_of_lt_of_le (h ?_) (by simp)
    rw [show (max 0 (-n)).toNat = 0 by omega, Int.pow_zero, Int.mul_one, show max 0 n = n by omega]
    have a := nat_lt_pow hb n.toNat
    have b' := Int.mul_le_mul_of_nonneg_right hd (show 0 ≤ b ^ n.toNat by have := powI_pos hb n.toNat; omega)
    omega
  obtain ⟨t, ht, h⟩ := border (P := fun i : Nat => bp b (-d + i) ≤ wo (n, d)) (n + d + 1).toNat (fun i j hij _ hj => Rat.le_trans (bp_mono hb (by omega)) hj)
  have t0 : 0 < t := (h 0 (by omega)).mp (by rw [show -d + ((0 : Nat) : Int) = -d by omega]; exact lo)
  have tn : ¬ (n + d).toNat < t := fun z => by
    have := (h (n + d).toNat (by omega)).mpr z
    rw [show -d + (((n + d).toNat : Nat) : Int) = n by omega] at this
    exact absurd (Std.lt_of_lt_of_le hi this) Rat.lt_irrefl
  refine ⟨-d + ((t - 1 : Nat) : Int), (h (t - 1) (by omega)).mpr (by omega), ?_⟩
  rw [← Rat.not_le]
  intro z
  have := (h t (by omega)).mp (by rw [show -d + ((t : Nat) : Int) = -d + ((t - 1 : Nat) : Int) + 1 by omega]; exact z)
  omega
theorem side_D {b : Int} {x : P2} {c e : Int} {sd : Option Int} (h : SideAt b x c e sd) : SideD b (wo x) c e sd := by cases sd <;> exact h
theorem partD_exists {f : Fm} (hf : FmD f) {n d : Int} (hn : 1 ≤ n) (hd : 1 ≤ d) : ∃ c e sd, PartD f (wo (n, d)) c e sd := by
  obtain ⟨k, k1, k2⟩ := pow_existsD hf.b2 hn hd
  obtain ⟨q1, q2⟩ := part_eD hf k1 k2
  obtain ⟨c, ca, c0, c1, cF, cle, clt⟩ := grid_floorD hf (show 0 < d by omega) (show 0 ≤ n by omega) q1 q2
  obtain ⟨s1, s2⟩ := part_side hf.b2 (show 0 < d by omega) cle
  by_cases z : c * (d * f.b ^ (max 0 (max f.lo (k - f.p + 1))).toNat) = n * f.b ^ (max 0 (-(max f.lo (k - f.p + 1)))).toNat
  · exact ⟨c, _, none, by omega, c0, c1, cF, cle, clt, s1 z⟩
  · obtain ⟨sd, hs⟩ : ∃ sd, SideAt f.b (n, d) c (max f.lo (k - f.p + 1)) sd := ⟨_, s2 z _ rfl⟩
    exact ⟨c, _, sd, by omega, c0, c1, cF, cle, clt, side_D hs⟩
theorem rnd_exists {f : Fm} (hf : FmD f) {way : Str} {s c e : Int} (hc : 1 ≤ c) : ∃ d, RndD f way s (dw c e) d := by
  have p := powP_can ten2 e
  have p1 := powP_nn ten2 e
  have w : wo (c * (powP 10 e).1, (powP 10 e).2) = dw c e := lsz_wo (f := ⟨10, 1, 0, 0⟩) ten2 c e
  have n0 : 1 ≤ c * (powP 10 e).1 := by
    have : 1 ≤ (powP 10 e).1 := by
      unfold powP
      split
      · have := powI_pos ten2 e.toNat
        show (1 : Int) ≤ 10 ^ e.toNat
        omega
      · exact Int.le_refl _
    have := Int.mul_le_mul_of_nonneg_right hc (show 0 ≤ (powP 10 e).1 by omega)
    omega
  obtain ⟨C, E, sd, h⟩ := partD_exists hf n0 (show 1 ≤ (powP 10 e).2 by have := p.pos; omega)
  rw [w] at h
  exact ⟨_, C, E, sd, h, rfl⟩
theorem room_ok {f : Fm} (hf : FmD f) {m : Int} (h : roomF f - 4 ≤ m) : (f.T : Rat) * bp f.b f.hi ≤ bp 10 m ∧ bp 10 (-m) ≤ bp f.b f.lo := by
  have p2 := hf.p2
  unfold roomF at h
  exact ⟨top_room hf (by omega), low_room hf (by omega)⟩
end VI

/-! PL66: ends of stretches, divisors by tens (k34). -/
namespace VI
open PySem
/-- half of the sum of two sizes -/
def endP (x y : P2) : P2 := (x.1 * y.2 + y.1 * x.2, 2 * x.2 * y.2)
/-- the lower neighbour of a number -/
def blw (f : Fm) (c e : Int) : Int × Int := if f.F < c ∨ e = f.lo then (c - 1, e) else (f.T - 1, e - 1)
/-- a fraction from which decimals are made -/
structure EndK (n d : Int) : Prop where
  n1 : 1 ≤ n
  d1 : 1 ≤ d
  bn : Bd 9600 n
  bd : Bd 8900 d
  lo : d ≤ n * 2 ^ 4410
  sm : (d ≤ 2 ∧ Bd 5050 n) ∨ n * n ≤ 2 ^ 1300 * d
theorem powP_le {b e : Int} (h : e ≤ 0) : powP b e = (1, b ^ (-e).toNat) := by
  unfold powP
  split
  · have : e = 0 := by omega
    subst this
    simp
  · rfl
theorem powP_ge {b e : Int} (h : 0 ≤ e) : powP b e = (b ^ e.toNat, 1) := by
  unfold powP
  rw [if_pos h]
theorem sqY_le {S Y d : Int} (h0 : 0 ≤ S) (h : Bd 650 S) (hd : Y * Y ≤ d) : S * Y * (S * Y) ≤ 2 ^ 1300 * d := by
  have h : S.natAbs < 2 ^ 650 := h
  have l : S ≤ 2 ^ 650 := by
    have e : ((2 ^ 650 : Nat) : Int) = (2 : Int) ^ 650 := by rw [Int.natCast_pow]; rfl
    omega
  have s2 : S * S ≤ 2 ^ 1300 := by
    have := Int.mul_le_mul l l h0 (by decide)
    rw [← Int.pow_add] at this
    exact this
  have y2 : 0 ≤ Y * Y := by
    rcases Int.le_total 0 Y with z | z
    · exact Int.mul_nonneg z z
    · have := Int.mul_nonneg (show 0 ≤ -Y by omega) (show 0 ≤ -Y by omega)
      rwa [Int.neg_mul_neg] at this
  have e : S * Y * (S * Y) = S * S * (Y * Y) := by grind
  rw [e]
  exact Int.le_trans (Int.mul_le_mul_of_nonneg_right s2 y2) (Int.mul_le_mul_of_nonneg_left hd (by decide))
theorem sz_pos' {f : Fm} (hf : FmD f) {s c e : Int} (hn : NumOk f s c e) (hc : 1 ≤ c) : 1 ≤ (lsz f c e).1 := by
  obtain ⟨_, _, c1, _⟩ := hf.pP hn.e1 hn.e2
  have := Int.mul_le_mul_of_nonneg_right hc (show 0 ≤ (powP f.b e).1 by omega)
  show 1 ≤ c * (powP f.b e).1
  omega
theorem pow_base {x y : Int} (h0 : 0 ≤ x) (h : x ≤ y) (n : Nat) : x ^ n ≤ y ^ n := by
  induction n with
  | zero => simp
  | succ n ih =>
    rw [Int.pow_succ, Int.pow_succ]
    exact Int.mul_le_mul ih h h0 (Int.pow_nonneg (by omega))
theorem endK_num {f : Fm} (hf : FmD f) {s c e : Int} (hn : NumOk f s c e) (hc : 1 ≤ c) : EndK (lsz f c e).1 (lsz f c e).2 := by
  have z := hf.sz hn
  have up : ∀ d : Int, Bd 4401 d → d ≤ 2 ^ 4410 := fun d h => by
    have h : d.natAbs < 2 ^ 4401 := h
    have e : ((2 ^ 4401 : Nat) : Int) = (2 : Int) ^ 4401 := by rw [Int.natCast_pow]; rfl
    have l := pow_le_pow (b := 2) (by decide) (show 4401 ≤ 4410 by decide)
    omega
  have lo : (lsz f c e).2 ≤ (lsz f c e).1 * 2 ^ 4410 := by
    refine Int.le_trans (up _ (z.bd.up (by decide))) ?_
    have := Int.mul_le_mul_of_nonneg_right (sz_pos' hf hn hc) (show (0 : Int) ≤ 2 ^ 4410 by exact Int.le_of_lt (powI_pos (by decide) 4410))
    rwa [Int.one_mul] at this
  refine ⟨sz_pos' hf hn hc, z.d1, z.bn.up (by decide), z.bd.up (by decide), lo, ?_⟩
  have c1 : c < f.T := hn.c1
  have bc : Bd 640 c := hf.bp.of_natAbs (by show c.natAbs ≤ f.T.natAbs; omega)
  by_cases y : 0 ≤ e
  · left
    unfold lsz
    rw [powP_ge y]
    refine ⟨by show (1 : Int) ≤ 2; decide, ?_⟩
    have := z.bn
    unfold lsz at this
    rw [powP_ge y] at this
    exact this.up (by decide)
  · right
    unfold lsz
    rw [powP_le (by omega)]
    show c * 1 * (c * 1) ≤ 2 ^ 1300 * f.b ^ (-e).toNat
    refine sqY_le (Y := 1) (by omega) (bc.up (by decide)) ?_
    have := powI_pos hf.b2 (-e).toNat
    omega
theorem endK_two {f : Fm} (hf : FmD f) {c e c' e' : Int} (hc : 1 ≤ c) (hc1 : c ≤ f.T) (hc' : 0 ≤ c') (hc2 : c' ≤ f.T) (e0 : f.lo ≤ e) (e1 : e ≤ f.hi) (e2 : f.lo ≤ e') (e3 : e' ≤ f.hi + 1) (k : e' = e ∨ e' = e + 1 ∨ e' = e - 1) : EndK (endP (lsz f c e) (lsz f c' e')).1 (endP (lsz f c e) (lsz f c' e')).2 := by
  have b2 := hf.b2
  have b36 := hf.b36
  have bb : Bd 6 f.b := by unfold Bd; omega
  have bT : Bd 640 f.T := hf.bp
  have bc : Bd 641 c := (bT.of_natAbs (by omega : c.natAbs ≤ f.T.natAbs)).up (by decide)
  have bc' : Bd 641 c' := (bT.of_natAbs (by omega : c'.natAbs ≤ f.T.natAbs)).up (by decide)
  have mono : ∀ {x y : Nat}, x ≤ y → (f.b ^ x).natAbs ≤ (f.b ^ y).natAbs := fun {x y} q => by
    have a := pow_le_pow b2 q
    have p := powI_pos b2 x
    omega
  by_cases y : 0 ≤ e ∧ 0 ≤ e'
  · have l1 : lsz f c e = (c * f.b ^ e.toNat, 1) := by unfold lsz; rw [powP_ge y.1]
    have l2 : lsz f c' e' = (c' * f.b ^ e'.toNat, 1) := by unfold lsz; rw [powP_ge y.2]
    rw [l1, l2]
    unfold endP
    have p1 := powI_pos b2 e.toNat
    have p2 := powI_pos b2 e'.toNat
    have q1 : Bd 4400 (f.b ^ e.toNat) := hf.bh.of_natAbs (mono (by omega))
    have q2 : Bd 4406 (f.b ^ e'.toNat) := by
      have h1 : Bd 4406 (f.b ^ (f.hi.natAbs + 1)) := by
        rw [Int.pow_succ]
        exact hf.bh.mul bb
      exact h1.of_natAbs (mono (by omega))
    have m1 : Bd 5041 (c * f.b ^ e.toNat) := bc.mul q1
    have m2 : Bd 5047 (c' * f.b ^ e'.toNat) := bc'.mul q2
    have s : Bd 5048 (c * f.b ^ e.toNat * 1 + c' * f.b ^ e'.toNat * 1) := by
      rw [Int.mul_one, Int.mul_one]
      exact (m1.add m2).up (by decide)
    have n1 := Int.mul_le_mul_of_nonneg_right hc (show 0 ≤ f.b ^ e.toNat by omega)
    have n2 := Int.mul_nonneg hc' (show 0 ≤ f.b ^ e'.toNat by omega)
    refine ⟨?_, by show (1 : Int) ≤ 2 * 1 * 1; decide, s.up (by decide), Bd.up (k := 64) (Bd.lit64 2 (by decide)) (by decide), ?_, .inl ⟨by show (2 : Int) * 1 * 1 ≤ 2; decide, s.up (by decide)⟩⟩
    · show 1 ≤ c * f.b ^ e.toNat * 1 + c' * f.b ^ e'.toNat * 1
      omega
    · show (2 : Int) * 1 * 1 ≤ (c * f.b ^ e.toNat * 1 + c' * f.b ^ e'.toNat * 1) * 2 ^ 4410
      have l := pow_le_pow (b := 2) (by decide) (show 1 ≤ 4410 by decide)
      have q := Int.mul_le_mul (show 1 ≤ c * f.b ^ e.toNat * 1 + c' * f.b ^ e'.toNat * 1 by omega) l (by decide) (by omega)
      have q : (1 : Int) * 2 ^ 1 ≤ _ := q
      omega
  · have l1 : lsz f c e = (c, f.b ^ (-e).toNat) := by
      unfold lsz
      rw [powP_le (by omega)]
      show (c * 1, _) = _
      rw [Int.mul_one]
    have l2 : lsz f c' e' = (c', f.b ^ (-e').toNat) := by
      unfold lsz
      rw [powP_le (by omega)]
      show (c' * 1, _) = _
      rw [Int.mul_one]
    rw [l1, l2]
    unfold endP
    have p1 := powI_pos b2 (-e).toNat
    have p2 := powI_pos b2 (-e').toNat
    have q1 : Bd 4400 (f.b ^ (-e).toNat) := hf.bl.of_natAbs (mono (by omega))
    have q2 : Bd 4400 (f.b ^ (-e').toNat) := hf.bl.of_natAbs (mono (by omega))
    have n1 := Int.mul_le_mul_of_nonneg_right hc (show 0 ≤ f.b ^ (-e').toNat by omega)
    have n2 := Int.mul_nonneg hc' (show 0 ≤ f.b ^ (-e).toNat by omega)
    have d1 := Int.mul_le_mul (show 1 ≤ f.b ^ (-e).toNat by omega) (show 1 ≤ f.b ^ (-e').toNat by omega) (by decide) (by omega)
    refine ⟨by show 1 ≤ c * f.b ^ (-e').toNat + c' * f.b ^ (-e).toNat; omega, ?_, ((bc.mul q2).add (bc'.mul q1)).up (by decide), (((Bd.lit64 2 (by decide)).mul q1).mul q2).up (by decide), ?_, .inr ?_⟩
    · show 1 ≤ 2 * f.b ^ (-e).toNat * f.b ^ (-e').toNat
      rw [Int.mul_assoc]
      omega
    · show 2 * f.b ^ (-e).toNat * f.b ^ (-e').toNat ≤ (c * f.b ^ (-e').toNat + c' * f.b ^ (-e).toNat) * 2 ^ 4410
      have q1 : (f.b ^ (-e).toNat).natAbs < 2 ^ 4400 := q1
      have e9 : ((2 ^ 4400 : Nat) : Int) = (2 : Int) ^ 4400 := by rw [Int.natCast_pow]; rfl
      have l : 2 * f.b ^ (-e).toNat ≤ 2 ^ 4410 := by
        have := pow_le_pow (b := 2) (by decide) (show 4401 ≤ 4410 by decide)
        rw [Int.pow_succ] at this
        omega
      have a := Int.mul_le_mul l (show f.b ^ (-e').toNat ≤ c * f.b ^ (-e').toNat + c' * f.b ^ (-e).toNat by omega) (by omega) (Int.le_of_lt (powI_pos (by decide) 4410))
      rw [Int.mul_comm ((2 : Int) ^ 4410)] at a
      exact a
    · show (c * f.b ^ (-e').toNat + c' * f.b ^ (-e).toNat) * (c * f.b ^ (-e').toNat + c' * f.b ^ (-e).toNat) ≤ 2 ^ 1300 * (2 * f.b ^ (-e).toNat * f.b ^ (-e').toNat)
      rcases k with k | k | k
      · subst k
        have := sqY_le (S := c + c') (Y := f.b ^ (-e').toNat) (d := 2 * f.b ^ (-e').toNat * f.b ^ (-e').toNat) (by omega) ((bc.add bc').up (by decide)) (by
          rw [Int.mul_assoc]
          have := Int.mul_nonneg (show 0 ≤ f.b ^ (-e').toNat by omega) (show 0 ≤ f.b ^ (-e').toNat by omega)
          omega)
        rwa [Int.add_mul] at this
      · obtain ⟨Y, hY⟩ : ∃ Y, Y = f.b ^ (-e').toNat := ⟨_, rfl⟩
        have e4 : f.b ^ (-e).toNat = f.b * Y := by rw [hY, show (-e).toNat = (-e').toNat + 1 by omega, Int.pow_succ, Int.mul_comm]
        rw [e4, ← hY]
        rw [← hY] at p2
        have yy := Int.mul_nonneg (show 0 ≤ Y by omega) (show 0 ≤ Y by omega)
        have := sqY_le (S := c + c' * f.b) (Y := Y) (d := 2 * (f.b * Y) * Y) (by have := Int.mul_nonneg hc' (show 0 ≤ f.b by omega); omega) ((bc.add (bc'.mul bb)).up (by decide)) (by
          have h : 1 * (Y * Y) ≤ 2 * f.b * (Y * Y) := Int.mul_le_mul_of_nonneg_right (by omega) yy
          have e : 2 * (f.b * Y) * Y = 2 * f.b * (Y * Y) := by grind
          omega)
        have e5 : (c + c' * f.b) * Y = c * Y + c' * (f.b * Y) := by grind
        rwa [e5] at this
      · obtain ⟨Y, hY⟩ : ∃ Y, Y = f.b ^ (-e).toNat := ⟨_, rfl⟩
        have e4 : f.b ^ (-e').toNat = f.b * Y := by rw [hY, show (-e').toNat = (-e).toNat + 1 by omega, Int.pow_succ, Int.mul_comm]
        rw [e4, ← hY]
        rw [← hY] at p1
        have yy := Int.mul_nonneg (show 0 ≤ Y by omega) (show 0 ≤ Y by omega)
        have := sqY_le (S := c * f.b + c') (Y := Y) (d := 2 * Y * (f.b * Y)) (by have := Int.mul_nonneg (show 0 ≤ c by omega) (show 0 ≤ f.b by omega); omega) (((bc.mul bb).add bc').up (by decide)) (by
          have h : 1 * (Y * Y) ≤ 2 * f.b * (Y * Y) := Int.mul_le_mul_of_nonneg_right (by omega) yy
          have e : 2 * Y * (f.b * Y) = 2 * f.b * (Y * Y) := by grind
          omega)
        have e5 : (c * f.b + c') * Y = c * (f.b * Y) + c' * Y := by grind
        rwa [e5] at this
/-- divisors of powers of ten -/
def DivT (d : Int) (a b : Nat) : Prop := d = 2 ^ a * 5 ^ b
theorem tens_bound {n d C : Int} {a b m : Nat} (k : EndK n d) (h : DivT d a b) (hm : m = max a b) (hC : 0 ≤ C) (hq : C * d ≤ n * 10 ^ m) (h12 : m ≤ 1200) : Bd 5060 C := by
  have d1 := k.d1
  have n1 := k.n1
  rcases k.sm with ⟨d2, bn⟩ | sm
  · have m1 : m ≤ 1 := by
      unfold DivT at h
      have p2 : 1 ≤ (5 : Int) ^ b := by have := powI_pos (b := 5) (by decide) b; omega
      have p1 : 1 ≤ (2 : Int) ^ a := by have := powI_pos (b := 2) (by decide) a; omega
      have a1 : a ≤ 1 := by
        apply Classical.byContradiction
        intro z
        have := pow_le_pow (b := 2) (by decide) (show 2 ≤ a by omega)
        have q := Int.mul_le_mul this p2 (by decide) (by omega)
        rw [← h] at q
        have q : (2 : Int) ^ 2 * 1 ≤ d := q
        omega
      have b0 : b = 0 := by
        apply Classical.byContradiction
        intro z
        have := pow_le_pow (b := 5) (by decide) (show 1 ≤ b by omega)
        have q := Int.mul_le_mul p1 this (by decide) (by omega)
        rw [← h] at q
        have q : (1 : Int) * 5 ^ 1 ≤ d := q
        omega
      omega
    have t : (10 : Int) ^ m ≤ 10 := by
      have := pow_le_pow (b := 10) (by decide) m1
      simpa using this
    have p := powI_pos ten2 m
    have c1 : C ≤ n * 10 ^ m := by
      have := Int.mul_le_mul_of_nonneg_left d1 hC
      omega
    have c2 := Int.mul_le_mul_of_nonneg_left t (show 0 ≤ n by omega)
    have b10 : Bd 5054 (n * 10) := bn.mul (show Bd 4 (10 : Int) by unfold Bd; decide)
    exact (b10.of_natAbs (by omega)).up (by decide)
  · have T0 := powI_pos ten2 m
    have sq : C * C * d ≤ 2 ^ 1300 * (10 ^ m * 10 ^ m) := by
      have h1 : C * d * (C * d) ≤ n * 10 ^ m * (n * 10 ^ m) := Int.mul_le_mul hq hq (Int.mul_nonneg hC (by omega)) (Int.mul_nonneg (by omega) (by omega))
      have h2 : n * 10 ^ m * (n * 10 ^ m) = n * n * (10 ^ m * 10 ^ m) := by grind
      have h3 := Int.mul_le_mul_of_nonneg_right sm (Int.mul_nonneg (show 0 ≤ (10 : Int) ^ m by omega) (show 0 ≤ (10 : Int) ^ m by omega))
      rw [h2] at h1
      have h4 : C * C * d * d ≤ 2 ^ 1300 * (10 ^ m * 10 ^ m) * d := by
        have e1 : C * d * (C * d) = C * C * d * d := by grind
        have e2 : (2 : Int) ^ 1300 * d * (10 ^ m * 10 ^ m) = 2 ^ 1300 * (10 ^ m * 10 ^ m) * d := by grind
        rw [e1] at h1
        rw [e2] at h3
        exact Int.le_trans h1 h3
      exact Int.le_of_mul_le_mul_right h4 (by omega)
    have CC : 0 ≤ C * C := Int.mul_nonneg hC hC
    have key : C * C ≤ 2 ^ 8500 := by
      have pa := powI_pos (b := 2) (by decide) a
      have pb := powI_pos (b := 5) (by decide) b
      unfold DivT at h
      rcases Nat.le_total b a with z | z
      · have ma : m = a := by omega
        have dl : (2 : Int) ^ a ≤ d := by
          rw [h]
          have := Int.mul_le_mul_of_nonneg_left (show 1 ≤ (5 : Int) ^ b by omega) (show 0 ≤ (2 : Int) ^ a by omega)
          omega
        have q := Int.le_trans (Int.mul_le_mul_of_nonneg_left dl CC) sq
        have e : (2 : Int) ^ 1300 * (10 ^ m * 10 ^ m) = 2 ^ 1300 * 50 ^ a * 2 ^ a := by
          rw [ma, ← Int.mul_pow, Int.mul_assoc, ← Int.mul_pow]
          rfl
        rw [e] at q
        have q := Int.le_of_mul_le_mul_right q (by omega)
        refine Int.le_trans q ?_
        have f1 : (50 : Int) ^ a ≤ 2 ^ (6 * a) := by
          rw [Int.pow_mul]
          exact pow_base (by decide) (by decide) a
        have f2 := pow_le_pow (b := 2) (by decide) (show 1300 + 6 * a ≤ 8500 by omega)
        rw [Int.pow_add] at f2
        exact Int.le_trans (Int.mul_le_mul_of_nonneg_left f1 (by decide)) f2
      · have ma : m = b := by omega
        have dl : (5 : Int) ^ b ≤ d := by
          rw [h]
          have := Int.mul_le_mul_of_nonneg_right (show 1 ≤ (2 : Int) ^ a by omega) (show 0 ≤ (5 : Int) ^ b by omega)
          omega
        have q := Int.le_trans (Int.mul_le_mul_of_nonneg_left dl CC) sq
        have e : (2 : Int) ^ 1300 * (10 ^ m * 10 ^ m) = 2 ^ 1300 * 20 ^ b * 5 ^ b := by
          rw [ma, ← Int.mul_pow, Int.mul_assoc, ← Int.mul_pow]
          rfl
        rw [e] at q
        have q := Int.le_of_mul_le_mul_right q (by omega)
        refine Int.le_trans q ?_
        have f1 : (20 : Int) ^ b ≤ 2 ^ (6 * b) := by
          rw [Int.pow_mul]
          exact pow_base (by decide) (by decide) b
        have f2 := pow_le_pow (b := 2) (by decide) (show 1300 + 6 * b ≤ 8500 by omega)
        rw [Int.pow_add] at f2
        exact Int.le_trans (Int.mul_le_mul_of_nonneg_left f1 (by decide)) f2
    have cl : C ≤ 2 ^ 4250 := by
      apply Classical.byContradiction
      intro z
      have z : (2 : Int) ^ 4250 + 1 ≤ C := by omega
      have p : (0 : Int) < 2 ^ 4250 := powI_pos (by decide) 4250
      have := Int.mul_le_mul z z (by omega) hC
      have e : (2 : Int) ^ 4250 * 2 ^ 4250 = 2 ^ 8500 := by rw [← Int.pow_add]
      generalize (2 : Int) ^ 4250 = X at *
      have e2 : (X + 1) * (X + 1) = X * X + 2 * X + 1 := by grind
      omega
    show C.natAbs < 2 ^ 5060
    have e : ((2 ^ 4250 : Nat) : Int) = (2 : Int) ^ 4250 := by rw [Int.natCast_pow]; rfl
    have l : C.natAbs ≤ 2 ^ 4250 := by omega
    exact Nat.lt_of_le_of_lt l (Nat.pow_lt_pow_right (by decide) (by decide))
theorem dig1530 {c : Int} (h : Bd 5070 c) (h0 : 0 ≤ c) : digN c ≤ 1530 := by
  refine (dig_iff h0 (by decide)).mpr ?_
  have h : c.natAbs < 2 ^ 5070 := h
  have k : (2 : Nat) ^ 5070 ≤ 10 ^ 1530 := by decide +kernel
  have : c.natAbs < 10 ^ 1530 := Nat.lt_of_lt_of_le h k
  have e : ((c.natAbs : Nat) : Int) < ((10 ^ 1530 : Nat) : Int) := by exact_mod_cast this
  rw [show ((c.natAbs : Nat) : Int) = c by omega] at e
  refine Int.lt_of_lt_of_le e (Int.le_of_eq ?_)
  rw [Int.natCast_pow]
  rfl
theorem dig_mul {x y : Int} {k m : Nat} (hx : 0 ≤ x) (hy : 0 ≤ y) (h : y ≤ x * 2 ^ k) (hk : (2 : Nat) ^ k ≤ 10 ^ m) : digN y ≤ digN x + m := by
  have a := dig_lt hx
  refine (dig_iff hy (by have := dig_pos hx; omega)).mpr ?_
  rw [Int.pow_add]
  have e : ((2 ^ k : Nat) : Int) ≤ ((10 ^ m : Nat) : Int) := by exact_mod_cast hk
  rw [Int.natCast_pow, Int.natCast_pow] at e
  have e : (2 : Int) ^ k ≤ 10 ^ m := e
  have p := powI_pos (b := 2) (by decide) k
  have p2 := powI_pos ten2 m
  have b := Int.mul_le_mul_of_nonneg_left e hx
  have c := Int.mul_lt_mul_of_pos_right a p2
  omega
theorem EndK.dig {n d : Int} (h : EndK n d) : ((digN n : Int) - digN d).natAbs ≤ 1540 := by
  have n1 := h.n1
  have d1 := h.d1
  have a := dig_mul (m := 1330) (show 0 ≤ n by omega) (show 0 ≤ d by omega) h.lo (by decide +kernel)
  have b : digN n ≤ digN d + 1530 := by
    rcases h.sm with ⟨_, bn⟩ | s
    · have := dig1530 (bn.up (by decide)) (show 0 ≤ n by omega)
      omega
    · have q : n ≤ d * 2 ^ 1300 := by
        have := Int.mul_le_mul_of_nonneg_left n1 (show 0 ≤ n by omega)
        rw [Int.mul_comm ((2 : Int) ^ 1300)] at s
        omega
      have := dig_mul (m := 400) (show 0 ≤ d by omega) (show 0 ≤ n by omega) q (by decide +kernel)
      omega
  omega
theorem sz_ask2 {f : Fm} (hf : FmD f) {s c e : Int} (hn : NumOk f s c e) : 2 ≤ f.b ∧ f.b ≤ 36 ∧ -30000 ≤ e ∧ e ≤ 30000 ∧ MulOk c (powP f.b e).1 := by
  obtain ⟨a, b, _⟩ := hf.pP hn.e1 hn.e2
  have l := hf.l
  have h := hf.h
  have e1 := hn.e1
  have e2 := hn.e2
  have c0 := hn.c0
  have c1 : c < f.T := hn.c1
  have bc : Bd 640 c := hf.bp.of_natAbs (by show c.natAbs ≤ f.T.natAbs; omega)
  exact ⟨hf.b2, hf.b36, by omega, by omega, bc.mulOk a (by decide)⟩
end VI

/-! PL67: what lies in a stretch is read as its number (k37). -/
namespace VI
open PySem
def InE (lo hi : Rat) (ev : Prop) (w : Rat) : Prop := (lo < w ∧ w < hi) ∨ (ev ∧ lo ≤ w ∧ w ≤ hi)
structure EvenB (f : Fm) : Prop where
  T : f.T % 2 = 0
  F : f.F % 2 = 0
end VI

/-! PL68: digits that are enough, digits that are kept (k43). -/
namespace VI
open PySem
theorem rat_mul_le {a b c : Rat} (hc : 0 < c) : a * c ≤ b * c ↔ a ≤ b := by
  rw [← Rat.not_lt, ← Rat.not_lt, Rat.mul_lt_mul_right hc]
end VI

/-! PL69: what is read of a decimal of kept digits, told again (k43). -/
namespace VI
open PySem
end VI

/-! PL70: multiples of powers of ten in a stretch (k38). -/
namespace VI
open PySem
end VI

/-! PL71: the shortest decimal (k38). -/
namespace VI
open PySem
/-- the order of rows: digits, distance, size -/
def lt3 (a : Nat) (d t : Rat) (a' : Nat) (d' t' : Rat) : Prop := a < a' ∨ (a = a' ∧ (d < d' ∨ (d = d' ∧ t < t')))
/-- a decimal ahead of another one -/
def decLt (w : Rat) (c e c' e' : Int) : Prop := lt3 (digN c) (ab (dw c e - w)) (dw c e) (digN c') (ab (dw c' e' - w)) (dw c' e')
/-- the shortest decimal in a stretch about w -/
structure ShD (X Y : Rat) (ev : Prop) (w : Rat) (c e : Int) : Prop where
  c1 : 1 ≤ c
  tr : c % 10 ≠ 0
  inn : InE X Y ev (dw c e)
  best : ∀ c' e', 1 ≤ c' → c' % 10 ≠ 0 → InE X Y ev (dw c' e') → ¬ decLt w c' e' c e
end VI

/-! PL72: what is asked of a stretch and an exponent (k38). -/
namespace VI
open PySem
/-- what is asked of a stretch and an exponent -/
structure HmOk (x y : P2) (e : Int) : Prop where
  cx : Can x
  cy : Can y
  n0 : 0 ≤ x.1
  bx : Fb 5100 x
  byy : Fb 5100 y
  el : e.natAbs ≤ 1526
  up : wo x ≤ bp 10 (e + 800)
/-- what is asked of a stretch and an exponent, gone through -/
structure MiOk (x y : P2) (e : Int) : Prop where
  h : HmOk x y e
  y0 : 0 ≤ y.1
  yup : wo y ≤ bp 10 (e + 800)
  wid : wo y ≤ wo x + 1000 * bp 10 e
end VI

/-! PL73: reading never falls (k36). -/
namespace VI
open PySem
/-- places in their order -/
def lexP (c e c' e' : Int) : Prop := e < e' ∨ (e = e' ∧ c ≤ c')
theorem part_lex {f : Fm} (hf : FmD f) {w w' : Rat} (h : w ≤ w') {c e : Int} {sd : Option Int} {c' e' : Int} {sd' : Option Int} (p : PartD f w c e sd) (p' : PartD f w' c' e' sd') : lexP c e c' e' := by
  have l := p.le
  have l' := p'.lt
  by_cases a : e < e'
  · exact .inl a
  by_cases b : e = e'
  · subst b
    right
    refine ⟨rfl, ?_⟩
    apply Classical.byContradiction
    intro y
    have pb := bp_pos hf.b2 e
    have m : ((c' + 1 : Int) : Rat) * bp f.b e ≤ (c : Rat) * bp f.b e := (rat_mul_le pb).mpr (by exact_mod_cast (show c' + 1 ≤ c by omega))
    exact absurd (Std.lt_of_lt_of_le l' (Rat.le_trans m (Rat.le_trans l h))) Rat.lt_irrefl
  · exfalso
    have cF : f.F ≤ c := by
      have := p'.e0
      rcases p.cF with q | q
      · omega
      · exact q
    have := low_ltD hf (c' := c') (e' := e') (c := c) (e := e) (by omega) cF (by have := p'.c1; omega)
    exact absurd (Std.lt_of_lt_of_le l' (Rat.le_trans this (Rat.le_trans l h))) Rat.lt_irrefl
theorem upB_same {b : Int} {way : Str} {s c e : Int} {w w' : Rat} (h : w ≤ w') {sd sd' : Option Int} (p : SideD b w c e sd) (p' : SideD b w' c e sd') (u : upB way s c sd = true) : upB way s c sd' = true := by
  cases sd with
  | none => cases u
  | some z =>
    obtain ⟨l, p⟩ := p
    cases sd' with
    | none =>
      have p' : (c : Rat) * bp b e = w' := p'
      grind
    | some z' =>
      obtain ⟨_, p'⟩ := p'
      unfold upB at u ⊢
      dsimp only at u ⊢
      split at u
      · cases u
      · rename_i n1
        rw [if_neg n1]
        split at u
        · rename_i n2
          rw [if_pos n2]
          exact u
        · rename_i n2
          rw [if_neg n2]
          split at u
          · rename_i n3
            rw [if_pos n3]
            exact u
          · rename_i n3
            rw [if_neg n3]
            split at u
            · rename_i z0
              rcases p' with ⟨z1, _⟩ | ⟨z1, _⟩ | ⟨z1, q⟩
              · rw [if_neg (by omega), z1]
                rfl
              · rw [if_pos z1]
                exact u
              · exfalso
                rcases p with ⟨y, _⟩ | ⟨y, p⟩ | ⟨y, _⟩
                · omega
                · grind
                · omega
            · have u := of_decide_eq_true u
              rcases p with ⟨y, p⟩ | ⟨y, _⟩ | ⟨y, _⟩
              · rcases p' with ⟨z1, _⟩ | ⟨z1, q⟩ | ⟨z1, q⟩
                · rw [if_neg (by omega), z1]
                  rfl
                · grind
                · grind
              · omega
              · omega
structure PlcOk (f : Fm) (c e : Int) : Prop where
  e0 : f.lo ≤ e
  c0 : 0 ≤ c
  c1 : c < f.T
  cF : e = f.lo ∨ f.F ≤ c
theorem PartD.plc {f : Fm} {w : Rat} {c e : Int} {sd : Option Int} (p : PartD f w c e sd) : PlcOk f c e := ⟨p.e0, p.c0, p.c1, p.cF⟩
theorem uN_plc {f : Fm} (hf : FmD f) {c e : Int} (h : PlcOk f c e) : PlcOk f (uN f c e).1 (uN f c e).2 := by
  obtain ⟨F2, _, FT, _⟩ := hf.F
  have e0 := h.e0
  have c0 := h.c0
  have c1 := h.c1
  have cF := h.cF
  unfold uN
  split
  · exact ⟨by show f.lo ≤ e + 1; omega, by show 0 ≤ f.F; omega, FT, .inr (Int.le_refl _)⟩
  · exact ⟨e0, by show 0 ≤ c + 1; omega, by show c + 1 < f.T; omega, by show e = f.lo ∨ f.F ≤ c + 1; omega⟩
theorem upC_plc {f : Fm} (hf : FmD f) {way : Str} {s c e : Int} {sd : Option Int} (h : PlcOk f c e) : PlcOk f (upC f way s c e sd).1 (upC f way s c e sd).2 := by
  unfold upC
  split
  · exact uN_plc hf h
  · exact h
theorem lex_uN {f : Fm} (c e : Int) : lexP c e (uN f c e).1 (uN f c e).2 := by
  unfold uN lexP
  split
  · left
    show e < e + 1
    omega
  · right
    exact ⟨rfl, by show c ≤ c + 1; omega⟩
theorem lex_up {f : Fm} {way : Str} {s c e : Int} {sd : Option Int} : lexP c e (upC f way s c e sd).1 (upC f way s c e sd).2 := by
  unfold upC
  split
  · exact lex_uN c e
  · exact .inr ⟨rfl, Int.le_refl _⟩
theorem lex_trans {a b c d x y : Int} (h : lexP a b c d) (k : lexP c d x y) : lexP a b x y := by
  unfold lexP at *
  omega
theorem up_lex {f : Fm} (hf : FmD f) {way : Str} {s : Int} {w w' : Rat} (h : w ≤ w') {c e : Int} {sd : Option Int} {c' e' : Int} {sd' : Option Int} (p : PartD f w c e sd) (p' : PartD f w' c' e' sd') :
    lexP (upC f way s c e sd).1 (upC f way s c e sd).2 (upC f way s c' e' sd').1 (upC f way s c' e' sd').2 := by
  have l := part_lex hf h p p'
  by_cases q : c = c' ∧ e = e'
  · obtain ⟨rfl, rfl⟩ := q
    by_cases u : upB way s c sd = true
    · have u' := upB_same h p.sd p'.sd u
      unfold upC
      rw [if_pos u, if_pos u']
      exact .inr ⟨rfl, Int.le_refl _⟩
    · have : upC f way s c e sd = (c, e) := by unfold upC; rw [if_neg u]
      rw [this]
      exact lex_up
  · have st : lexP (upC f way s c e sd).1 (upC f way s c e sd).2 c' e' := by
      have c1 := p.c1
      have c1' := p'.c1
      have cF' := p'.cF
      have e0 := p.e0
      have c0' := p'.c0
      unfold lexP at l
      unfold upC
      split
      · unfold uN
        split
        · show lexP f.F (e + 1) c' e'
          unfold lexP
          omega
        · show lexP (c + 1) e c' e'
          unfold lexP
          omega
      · exact l
    exact lex_trans st lex_up
/-- the rank of a size -/
def mrk : Vl → Int × Int × Int
  | .inf _ => (2, 0, 0)
  | .num _ c e => if c = 0 then (0, 0, 0) else (1, e, c)
  | .nan => (0, 0, 0)
def le3 (a b : Int × Int × Int) : Prop := a.1 < b.1 ∨ (a.1 = b.1 ∧ (a.2.1 < b.2.1 ∨ (a.2.1 = b.2.1 ∧ a.2.2 ≤ b.2.2)))
theorem le3_refl (a : Int × Int × Int) : le3 a a := .inr ⟨rfl, .inr ⟨rfl, Int.le_refl _⟩⟩
theorem mrk_num (s c e : Int) : mrk (.num s c e) = if c = 0 then (0, 0, 0) else (1, e, c) := rfl
theorem le3_zero {v : Vl} : le3 (0, 0, 0) (mrk v) := by
  cases v with
  | inf s => exact .inl (by show (0 : Int) < 2; decide)
  | nan => exact le3_refl _
  | num s c e =>
    rw [mrk_num]
    split
    · exact le3_refl _
    · exact .inl (by show (0 : Int) < 1; decide)
theorem fin_mono {f : Fm} (hf : FmD f) {way : Str} {s : Int} {w w' : Rat} (h : w ≤ w') {c e : Int} {sd : Option Int} {c' e' : Int} {sd' : Option Int} (p : PartD f w c e sd) (p' : PartD f w' c' e' sd') : le3 (mrk (finV f way s c e sd)) (mrk (finV f way s c' e' sd')) := by
  have l := up_lex hf (way := way) (s := s) h p p'
  have k := upC_plc hf (way := way) (s := s) (sd := sd) p.plc
  have k' := upC_plc hf (way := way) (s := s) (sd := sd') p'.plc
  obtain ⟨F2, _, FT, _⟩ := hf.F
  unfold finV
  generalize upC f way s c e sd = U at *
  generalize upC f way s c' e' sd' = U' at *
  obtain ⟨u, x⟩ := U
  obtain ⟨u', x'⟩ := U'
  have l : lexP u x u' x' := l
  have k : PlcOk f u x := k
  have k' : PlcOk f u' x' := k'
  have k1 := k.c1
  have k2 := k.c0
  have k3 := k.e0
  have k4 := k'.cF
  have k5 := k'.c0
  have k6 := k'.e0
  unfold lexP at l
  dsimp only
  by_cases a : f.hi < x
  · have b : f.hi < x' := by omega
    rw [if_pos a, if_pos b]
    exact le3_refl _
  · rw [if_neg a]
    by_cases b : f.hi < x'
    · rw [if_pos b]
      split
      · rw [mrk_num]
        left
        split
        · show (0 : Int) < 2
          decide
        · show (1 : Int) < 2
          decide
      · rw [mrk_num, mrk_num, if_neg (show ¬ f.T - 1 = 0 by omega)]
        split
        · left
          show (0 : Int) < 1
          decide
        · right
          refine ⟨rfl, ?_⟩
          show x < f.hi ∨ (x = f.hi ∧ u ≤ f.T - 1)
          omega
    · rw [if_neg b, mrk_num, mrk_num]
      by_cases z : u = 0
      · rw [if_pos z]
        exact le3_zero (v := .num s u' x')
      · rw [if_neg z, if_neg (show ¬ u' = 0 by omega)]
        right
        refine ⟨rfl, ?_⟩
        show x < x' ∨ (x = x' ∧ u ≤ u')
        omega
/-- the opposite way -/
def turnW (way : Str) : Str := if way = "up" then "down" else if way = "down" then "up" else way
theorem upB_turn {way : Str} (hw : way ∈ ways5) {s : Int} (hs : s = 0 ∨ s = 1) (c : Int) (sd : Option Int) : upB (turnW way) (1 - s) c sd = upB way s c sd := by
  cases sd with
  | none => rfl
  | some z =>
    have w5 : way = "even" ∨ way = "away" ∨ way = "up" ∨ way = "down" ∨ way = "zero" := by
      simpa [ways5] using hw
    rcases hs with rfl | rfl <;> rcases w5 with rfl | rfl | rfl | rfl | rfl <;> simp (config := { decide := true }) [upB, turnW]
theorem infB_turn {way : Str} (hw : way ∈ ways5) {s : Int} (hs : s = 0 ∨ s = 1) : infB (turnW way) (1 - s) = infB way s := by
  have w5 : way = "even" ∨ way = "away" ∨ way = "up" ∨ way = "down" ∨ way = "zero" := by
    simpa [ways5] using hw
  rcases hs with rfl | rfl <;> rcases w5 with rfl | rfl | rfl | rfl | rfl <;> decide
theorem fin_turn {f : Fm} {way : Str} (hw : way ∈ ways5) {s : Int} (hs : s = 0 ∨ s = 1) (c e : Int) (sd : Option Int) : finV f (turnW way) (1 - s) c e sd = oppV (finV f way s c e sd) ∧ finG f (turnW way) (1 - s) c e sd = finG f way s c e sd := by
  have u : upC f (turnW way) (1 - s) c e sd = upC f way s c e sd := by unfold upC; rw [upB_turn hw hs]
  unfold finV finG
  rw [u, infB_turn hw hs]
  refine ⟨?_, rfl⟩
  split
  · split <;> rfl
  · rfl
theorem uN_ne {f : Fm} (c e : Int) : uN f c e ≠ (c, e) := by
  unfold uN
  split
  · intro h
    have := congrArg Prod.snd h
    have : e + 1 = e := this
    omega
  · intro h
    have := congrArg Prod.fst h
    have : c + 1 = c := this
    omega
/-- all ways tell one number exactly, or one of the two neighbours -/
theorem two_ways (f : Fm) {s : Int} (hs : s = 0 ∨ s = 1) (c e : Int) (sd : Option Int) :
    (∃ c1 e1, ∀ way ∈ ways5, finV f way s c e sd = .num s c1 e1 ∧ finG f way s c e sd = []) ∨
    (∃ A B, A ≠ B ∧ (∀ way ∈ ways5, (finV f way s c e sd = A ∨ finV f way s c e sd = B) ∧ finG f way s c e sd ≠ []) ∧ ((finV f "down" s c e sd = A ∧ finV f "up" s c e sd = B) ∨ (finV f "down" s c e sd = B ∧ finV f "up" s c e sd = A))) := by
  have w5 : ∀ way ∈ ways5, way = "even" ∨ way = "away" ∨ way = "up" ∨ way = "down" ∨ way = "zero" := fun way hw => by simpa [ways5] using hw
  have fne : ∀ way, (sd = none ∧ ¬ f.hi < (upC f way s c e sd).2) ∨ finG f way s c e sd ≠ [] := fun way => by
    by_cases a : f.hi < (upC f way s c e sd).2
    · right
      unfold finG
      rw [if_pos a]
      simp
    · cases sd with
      | none => exact .inl ⟨rfl, a⟩
      | some z =>
        right
        unfold finG
        rw [if_neg a]
        split
        · simp
        · simp
  -- beyond all
  have over : f.hi < e → ∃ A B, A ≠ B ∧ (∀ way ∈ ways5, (finV f way s c e sd = A ∨ finV f way s c e sd = B) ∧ finG f way s c e sd ≠ []) ∧ ((finV f "down" s c e sd = A ∧ finV f "up" s c e sd = B) ∨ (finV f "down" s c e sd = B ∧ finV f "up" s c e sd = A)) := fun he => by
    have big : ∀ way, f.hi < (upC f way s c e sd).2 := fun way => by
      unfold upC uN
      split
      · split
        · show f.hi < e + 1
          omega
        · exact he
      · exact he
    have v : ∀ way, finV f way s c e sd = if infB way s = true then .inf s else .num s (f.T - 1) f.hi := fun way => by
      unfold finV
      rw [if_pos (big way)]
    refine ⟨.inf s, .num s (f.T - 1) f.hi, (fun h => by cases h), fun way _ => ⟨?_, ?_⟩, ?_⟩
    · rw [v]
      split
      · exact .inl rfl
      · exact .inr rfl
    · rcases fne way with ⟨_, q⟩ | q
      · exact absurd (big way) q
      · exact q
    · rw [v, v]
      rcases hs with rfl | rfl
      · right
        exact ⟨rfl, rfl⟩
      · left
        exact ⟨rfl, rfl⟩
  by_cases he : f.hi < e
  · exact .inr (over he)
  cases sd with
  | none =>
    left
    refine ⟨c, e, fun way _ => ?_⟩
    have u : upC f way s c e none = (c, e) := rfl
    unfold finV finG
    rw [u, if_neg he, if_neg he]
    exact ⟨rfl, rfl⟩
  | some z =>
    right
    have v0 : ∀ way, upB way s c (some z) = false → finV f way s c e (some z) = .num s c e := fun way h => by
      have u : upC f way s c e (some z) = (c, e) := by unfold upC; rw [h]; rfl
      unfold finV
      rw [u, if_neg he]
    have v1 : ∀ way ∈ ways5, upB way s c (some z) = true → finV f way s c e (some z) = if f.hi < (uN f c e).2 then .inf s else .num s (uN f c e).1 (uN f c e).2 := fun way hw h => by
      have u : upC f way s c e (some z) = uN f c e := by unfold upC; rw [h]; rfl
      unfold finV
      rw [u]
      split
      · have inf : infB way s = true := by
          rcases hs with rfl | rfl <;> rcases w5 way hw with rfl | rfl | rfl | rfl | rfl <;> first | decide | (exfalso; revert h; simp (config := { decide := true }) [upB])
        rw [if_pos inf]
      · rfl
    refine ⟨.num s c e, (if f.hi < (uN f c e).2 then .inf s else .num s (uN f c e).1 (uN f c e).2), ?_, fun way hw => ⟨?_, ?_⟩, ?_⟩
    · split
      · intro h
        cases h
      · intro h
        injection h with _ h1 h2
        exact uN_ne (f := f) c e (Prod.ext h1.symm h2.symm)
    · cases u : upB way s c (some z) with
      | false => exact .inl (v0 way u)
      | true => exact .inr (v1 way hw u)
    · rcases fne way with ⟨q, _⟩ | q
      · cases q
      · exact q
    · have dn : (Str.ofString "down" : Str) ∈ ways5 := by simp [ways5]
      have un : (Str.ofString "up" : Str) ∈ ways5 := by simp [ways5]
      rcases hs with rfl | rfl
      · left
        exact ⟨v0 "down" (by simp (config := { decide := true }) [upB]), v1 "up" un (by simp (config := { decide := true }) [upB])⟩
      · right
        exact ⟨v1 "down" dn (by simp (config := { decide := true }) [upB]), v0 "up" (by simp (config := { decide := true }) [upB])⟩
/-- the outcome of a decimal -/
def ovl (f : Fm) (P : Int → Int × Int × Option Int) (way : Str) (s c : Int) : Vl := if c = 0 then .num s 0 f.lo else finV f way s (P c).1 (P c).2.1 (P c).2.2
def ofl (f : Fm) (P : Int → Int × Int × Option Int) (way : Str) (s c : Int) : List Str := if c = 0 then [] else finG f way s (P c).1 (P c).2.1 (P c).2.2
def outD (f : Fm) (P : Int → Int × Int × Option Int) (way : Str) (s c : Int) : D := .tuple [vlD (ovl f P way s c), .tuple ((ofl f P way s c).map PyData.str)]
def PartsD (f : Fm) (e : Int) (P : Int → Int × Int × Option Int) : Prop := ∀ c, 0 < c → PartD f (dw c e) (P c).1 (P c).2.1 (P c).2.2
theorem parts_ex {f : Fm} (hf : FmD f) (e : Int) : ∃ P, PartsD f e P := by
  have k : ∀ c : Int, ∃ x : Int × Int × Option Int, 0 < c → PartD f (dw c e) x.1 x.2.1 x.2.2 := fun c => by
    by_cases h : 0 < c
    · obtain ⟨d, c1, e1, sd, hp, _⟩ := rnd_exists hf (way := "even") (s := 0) (c := c) (e := e) (by omega)
      exact ⟨(c1, e1, sd), fun _ => hp⟩
    · exact ⟨(0, 0, none), fun z => absurd z h⟩
  obtain ⟨P, hP⟩ := Classical.axiomOfChoice k
  exact ⟨P, hP⟩
theorem out_is {f : Fm} (hf : FmD f) {e : Int} {P : Int → Int × Int × Option Int} (h : PartsD f e P) {way : Str} {s c : Int} (hc : 0 < c) {d : D} (r : RndD f way s (dw c e) d) : d = outD f P way s c := by
  have r' : RndD f way s (dw c e) (finD f way s (P c).1 (P c).2.1 (P c).2.2) := ⟨_, _, _, h c hc, rfl⟩
  rw [rndD_uniq hf r r']
  unfold finD outD ovl ofl
  rw [if_neg (by omega), if_neg (by omega)]
theorem out_mono {f : Fm} (hf : FmD f) {e : Int} {P : Int → Int × Int × Option Int} (h : PartsD f e P) (way : Str) (s : Int) {c c' : Int} (h0 : 0 ≤ c) (hc : c ≤ c') : le3 (mrk (ovl f P way s c)) (mrk (ovl f P way s c')) := by
  by_cases z : c = 0
  · have : mrk (ovl f P way s c) = (0, 0, 0) := by unfold ovl; rw [if_pos z, mrk_num, if_pos rfl]
    rw [this]
    exact le3_zero
  · have p := h c (by omega)
    have p' := h c' (by omega)
    unfold ovl
    rw [if_neg z, if_neg (by omega)]
    exact fin_mono hf ((rat_mul_le (bp_pos ten2 e)).mpr (by exact_mod_cast hc)) p p'
theorem out_turn {f : Fm} {P : Int → Int × Int × Option Int} {way : Str} (hw : way ∈ ways5) {s : Int} (hs : s = 0 ∨ s = 1) (c : Int) : ovl f P (turnW way) (1 - s) c = oppV (ovl f P way s c) ∧ ofl f P (turnW way) (1 - s) c = ofl f P way s c := by
  unfold ovl ofl
  by_cases z : c = 0
  · rw [if_pos z, if_pos z, if_pos z, if_pos z]
    exact ⟨rfl, rfl⟩
  · rw [if_neg z, if_neg z, if_neg z, if_neg z]
    exact fin_turn hw hs _ _ _
theorem out_two (f : Fm) (P : Int → Int × Int × Option Int) {s : Int} (hs : s = 0 ∨ s = 1) (c : Int) :
    (∃ c1 e1, ∀ way ∈ ways5, ovl f P way s c = .num s c1 e1 ∧ ofl f P way s c = []) ∨
    (∃ A B, A ≠ B ∧ (∀ way ∈ ways5, (ovl f P way s c = A ∨ ovl f P way s c = B) ∧ ofl f P way s c ≠ []) ∧ ((ovl f P "down" s c = A ∧ ovl f P "up" s c = B) ∨ (ovl f P "down" s c = B ∧ ovl f P "up" s c = A))) := by
  unfold ovl ofl
  by_cases z : c = 0
  · left
    refine ⟨0, f.lo, fun way _ => ?_⟩
    rw [if_pos z, if_pos z]
    exact ⟨rfl, rfl⟩
  · simp only [if_neg z]
    exact two_ways f hs _ _ _
end VI

namespace VI
open PySem PySem.Spec PyProof.Rows
local macro_rules | `(tactic| walk_at "sh") => `(tactic| first | exact Sh.vl | exact Sh.fm | exact Sh.dF | exact Sh.int | exact Sh.bool | exact Sh.none | exact Sh.str (by decide +kernel) | assumption | (apply Sh.tup; walk_at "shs") | (apply Sh.lst; walk_at "shs"))
local macro_rules | `(tactic| walk_at "shs") => `(tactic| first | exact all_nil | (refine all_cons ?_ ?_; walk_at "sh"; walk_at "shs") | assumption)
local macro_rules | `(tactic| walk_at "ne") => `(tactic| with_reducible first | assumption | (apply mul_ne; walk_at "ne"; walk_at "ne") | (apply nrm_ne; walk_at "ne") | omega)
local macro_rules | `(tactic| walk_at "nb") => `(tactic| (refine And.intro ?_ ?_; walk_at "ne"; (apply Bd.up; walk_at "bd"; omega)))
local macro_rules | `(tactic| walk_at "fe") => `(tactic| with_reducible first | assumption | exact Fit.cmp | (apply Fit.pair; walk_at "bd"; walk_at "bd"; omega; omega) | (apply Fit.nrm; walk_at "bd"; walk_at "bd"; omega; omega) | (apply Fit.one; walk_at "bd"; omega))
local macro_rules | `(tactic| walk_at "all") => `(tactic| first | exact all_nil | (refine all_cons ?_ ?_; walk_at "fe"; walk_at "all"))
local macro_rules | `(tactic| walk_at "rep") => `(tactic| first | (refine Fit.rep (Fit.lst (k := 2) (w := 9000) ?_) ?_ ?_; walk_at "all"; omega; (simp only [List.length_cons, List.length_nil]; omega)) | (refine Fit.rep (k := 2) (w := 9000) ?_ ?_ ?_; walk_at "fe"; omega; omega))
local macro_rules | `(tactic| walk_at "vc") => `(tactic| first | exact Or.inl rfl | assumption | omega | walk_at "mo" | walk_at "dv" | walk_at "nb" | (simp only [List.length_cons, List.length_nil, List.length_append]; omega) | trivial | (with_reducible decide) | (refine RedOk.left ?_; first | assumption | walk_at "nb") | (refine Or.inr ⟨shp6 ?_, shp6 ?_⟩ <;> walk_at "sh"))
local macro_rules | `(tactic| walk_at "bd") => `(tactic| with_reducible first | assumption | (apply Bd.mul; walk_at "bd"; walk_at "bd") | (apply Bd.add; walk_at "bd"; walk_at "bd") | (apply Bd.sub; walk_at "bd"; walk_at "bd") | (apply Bd.neg; walk_at "bd") | (apply Bd.emod; walk_at "bd"; first | assumption | omega) | (apply Bd.fdiv; walk_at "bd") | (apply Bd.abs; walk_at "bd") | (apply Bd.nrm1; walk_at "bd") | (apply Bd.nrm2; walk_at "bd") | (refine Bd.lit64 (OfNat.ofNat _) ?_; omega))
local macro_rules | `(tactic| walk_at "mo") => `(tactic| (apply Bd.mulOk; walk_at "bd"; walk_at "bd"; omega))
local macro_rules | `(tactic| walk_at "dv") => `(tactic| (apply Bd.divOk; walk_at "bd"; (first | assumption | omega); omega))
local macro_rules | `(tactic| walk_at "w") => `(tactic| conv => whnf)
local macro_rules | `(tactic| walk_at "vi") => `(tactic|
  (conv => whnf) <;> first
  | (refine ⟨fun (h : _ = true) => ?_, fun (h : _ = false) => ?_⟩ <;> (try simp only [not_true_eq_false, List.any_cons, List.any_nil, Bool.or_eq_true, Bool.or_eq_false_iff, Bool.or_false, eqv_int, eqv_str, decide_eq_true_eq, decide_eq_false_iff_not, Int.not_lt, Int.not_le, Bool.not_eq_true', Bool.not_eq_false', Bool.true_eq_false, Bool.false_eq_true, bne_iff_ne, bne_eq_false_iff_eq, ne_eq, Classical.not_not] at h) <;> walk_at "vi")
  | (refine And.intro ?obl ?go; (case' obl => try walk_at "vc"); (case' go => walk_at "vi"))
  | skip)
local macro_rules | `(tactic| walk_at "vp") => `(tactic|
  (conv => whnf) <;> first
  | (refine ⟨fun (h : _ = true) => ?_, fun (h : _ = false) => ?_⟩ <;> (try simp only [not_true_eq_false, List.any_cons, List.any_nil, Bool.or_eq_true, Bool.or_eq_false_iff, Bool.or_false, eqv_int, eqv_str, decide_eq_true_eq, decide_eq_false_iff_not, Int.not_lt, Int.not_le, Bool.not_eq_true', Bool.not_eq_false', Bool.true_eq_false, Bool.false_eq_true, bne_iff_ne, bne_eq_false_iff_eq, ne_eq, Classical.not_not, nan_eqv, isNan_num, isNan_inf, isNan_nan, isNonD_int, isNonD_none, isNonD_tup, isNonD_vl, strA, strB, strC, strD, strE, strF, not_false_eq_true, or_self, and_self, false_and, and_false] at h) <;> (try contradiction) <;> (try (exfalso; omega)) <;> walk_at "vp")
  | (refine And.intro ?obl ?go; (case' obl => try walk_at "vc"); (case' go => walk_at "vp"))
  | skip)
local macro_rules | `(tactic| walk_at "mono") => `(tactic| (intro vs g Q Q' h q; revert q; split <;> (intro q; first | exact ⟨q.1, h _ _ q.2⟩ | exact h _ _ q | exact q.elim)))
/-! whole_power -/
def b_whole_power : IS := .seq (.asg (.var 2) (.cst (.int 1))) (.seq (.whl (.cmp .gt (.var 1) (.cst (.int 0))) (.seq (.ifs (.cmp .eq (.bin .mod (.var 1) (.cst (.int 2))) (.cst (.int 1))) (.seq (.asg (.var 2) (.bin .mul (.var 2) (.var 0))) .skip) (.skip)) (.seq (.asg (.tup (.cons (.var 0) (.cons (.var 1) .nil))) (.tup (.cons (.bin .mul (.var 0) (.var 0)) (.cons (.bin .fdiv (.var 1) (.cst (.int 2))) .nil)))) .skip))) (.seq (.ret (.var 2)) .skip))
def tb_whole_power : Tb := ⟨[], []⟩
theorem tbm_whole_power : tb_whole_power.Mono := Tb.mono_of fun q hq => by
  simp only [tb_whole_power, List.mem_cons, List.not_mem_nil, or_false] at hq
def sp_whole_power : Sem := fun vs g Q => match vs with
  | [.d (.int b), .d (.int e)] => (∃ k, Bd k b ∧ 0 ≤ e ∧ k * (4 * e.toNat + 4) ≤ 900000) ∧ Q (.d (.int (b ^ e.toNat))) g
  | _ => False
theorem mono_whole_power : SemMono sp_whole_power := by
  unfold sp_whole_power
  walk_at "mono"
theorem pure_whole_power : ∀ vs g Q, sp_whole_power vs g Q → semF tb_whole_power 3 b_whole_power vs g Q := by
  intro vs g Q h
  unfold sp_whole_power at h
  split at h
  · rename_i b e
    obtain ⟨⟨k, hk, he, hb⟩, h⟩ := h
    walk_at "vi"
    refine ⟨fun m env st => ∃ (p r e' : Nat), env = [some (.d (.int (b ^ p))), some (.d (.int e')), some (.d (.int (b ^ r)))] ∧ st = ⟨g, []⟩ ∧ e' = m ∧ r + p * e' = e.toNat ∧ 1 ≤ p, ⟨_, 1, 0, e.toNat, ?_, rfl, rfl, by omega, by omega⟩, ?_⟩
    · simp [put, Int.toNat_of_nonneg he, Int.pow_succ]
    rintro m _ _ ⟨p, r, e', rfl, rfl, rfl, hs, hp⟩
    have ok : 0 < e' → ∀ x y, x ≤ e.toNat → y ≤ e.toNat → MulOk (b ^ x) (b ^ y) := fun h0 x y hx hy => by
      have h1 := Nat.mul_le_mul_left k hx
      have h2 := Nat.mul_le_mul_left k hy
      rw [Nat.mul_add, ← Nat.mul_assoc, Nat.mul_comm k 4, Nat.mul_assoc] at hb
      exact (hk.pow x).mulOk (hk.pow y) (by omega)
    have hpe : 0 < e' → p ≤ p * e' := fun h0 => Nat.le_mul_of_pos_right p h0
    walk_at "vi"
    · rename_i h0 h1
      obtain ⟨q, rfl⟩ : ∃ q, e' = 2 * q + 1 := ⟨e' / 2, by omega⟩
      refine ⟨q, by omega, 2 * p, r + p, q, ?_, rfl, rfl, by rw [← hs]; grind, by omega⟩
      have e1 : (2 * q + 1 : Nat) / 2 = q := by omega
      simp only [put]
      rw [Int.fdiv_eq_ediv_of_nonneg _ (by decide), show ((2 * q + 1 : Nat) : Int) / 2 = (q : Int) by omega, ← Int.pow_add, ← Int.pow_add, Nat.two_mul]
    · exact ok (by omega) _ _ (by have := hpe (by omega); omega) (by have := hpe (by omega); omega)
    · exact ok (by omega) _ _ (by omega) (by have := hpe (by omega); omega)
    · rename_i h0 h1
      obtain ⟨q, rfl⟩ : ∃ q, e' = 2 * q := ⟨e' / 2, by omega⟩
      refine ⟨q, by omega, 2 * p, r, q, ?_, rfl, rfl, by rw [← hs]; grind, by omega⟩
      simp only [put]
      rw [Int.fdiv_eq_ediv_of_nonneg _ (by decide), show ((2 * q : Nat) : Int) / 2 = (q : Int) by omega, ← Int.pow_add, Nat.two_mul]
    · exact ok (by omega) _ _ (by have := hpe (by omega); omega) (by have := hpe (by omega); omega)
    · rename_i h0
      have e0 : e' = 0 := by omega
      subst e0
      have hr : r = e.toNat := by omega
      rw [hr]
      exact h
  · exact h.elim
/-! reduced -/
def b_reduced : IS := .seq (.asg (.var 2) (.ife (.cmp .gt (.var 1) (.cst (.int 0))) (.blt .gcd 0 (.cons (.var 0) (.cons (.var 1) .nil))) (.neg (.blt .gcd 0 (.cons (.var 0) (.cons (.var 1) .nil)))))) (.seq (.ret (.tup (.cons (.bin .fdivw (.var 0) (.var 2)) (.cons (.bin .fdivw (.var 1) (.var 2)) .nil)))) .skip)
def tb_reduced : Tb := ⟨[], []⟩
theorem tbm_reduced : tb_reduced.Mono := Tb.mono_of fun q hq => by
  simp only [tb_reduced, List.mem_cons, List.not_mem_nil, or_false] at hq
def sp_reduced : Sem := fun vs g Q => match vs with
  | [.d (.int n), .d (.int d)] => RedX n d ∧ Q (.d (dF (nrm n d))) g
  | _ => False
theorem mono_reduced : SemMono sp_reduced := by
  unfold sp_reduced
  walk_at "mono"
theorem pure_reduced : ∀ vs g Q, sp_reduced vs g Q → semF tb_reduced 3 b_reduced vs g Q := by
  intro vs g Q h
  unfold sp_reduced at h
  split at h
  · rename_i n d
    obtain ⟨hr, h⟩ := h
    have h0 := hr.ne
    obtain ⟨d1, d2⟩ := hr.dv (g := (Int.gcd n d : Int)) (Int.natAbs_natCast _)
    obtain ⟨d3, d4⟩ := hr.dv (g := -(Int.gcd n d : Int)) (by rw [Int.natAbs_neg, Int.natAbs_natCast])
    unfold nrm dF at h
    walk_at "vi"
    · rename_i hp
      rw [if_pos hp] at h
      exact h
    · rename_i hp
      rw [if_neg (by omega)] at h
      exact h
  · exact h.elim
/-! times -/
def b_times : IS := .seq (.ret (.call 0 (.cons (.bin .mul (.ixc (.var 0) 0) (.ixc (.var 1) 0)) (.cons (.bin .mul (.ixc (.var 0) 1) (.ixc (.var 1) 1)) .nil)))) .skip
def tb_times : Tb := ⟨[((Str.ofString "reduced"), 2, sp_reduced)], []⟩
theorem tbm_times : tb_times.Mono := Tb.mono_of fun q hq => by
  simp only [tb_times, List.mem_cons, List.not_mem_nil, or_false] at hq
  subst hq
  exact mono_reduced
def sp_times : Sem := fun vs g Q => ∃ x y k l, vs = [.d (dF x), .d (dF y)] ∧ (Fb k x ∧ Fb l y ∧ k + l ≤ 900000 ∧ RedX (x.1 * y.1) (x.2 * y.2)) ∧ Q (.d (dF (mulP x y))) g
theorem mono_times : SemMono sp_times := fun vs g Q Q' h ⟨x, y, k, l, e, a, q⟩ => ⟨x, y, k, l, e, a, h _ _ q⟩
theorem pure_times : ∀ vs g Q, sp_times vs g Q → semF tb_times 2 b_times vs g Q := by
  rintro _ g Q ⟨⟨x1, x2⟩, ⟨y1, y2⟩, k, l, rfl, ⟨hx, hy, hk, hm⟩, h⟩
  have m1 : MulOk x1 y1 := hx.b1.mulOk hy.b1 (by omega)
  have m2 : MulOk x2 y2 := hx.b2.mulOk hy.b2 (by omega)
  have n1 : RedX (x1 * y1) (x2 * y2) := hm
  walk_at "vi"
  all_goals first | exact h | trace_state
/-! power_of -/
def b_power_of : IS := .seq (.ret (.ife (.cmp .ge (.var 1) (.cst (.int 0))) (.tup (.cons (.call 0 (.cons (.var 0) (.cons (.var 1) .nil))) (.cons (.cst (.int 1)) .nil))) (.call 1 (.cons (.cst (.int 1)) (.cons (.call 0 (.cons (.var 0) (.cons (.neg (.var 1)) .nil))) .nil))))) .skip
def tb_power_of : Tb := ⟨[((Str.ofString "whole_power"), 2, sp_whole_power), ((Str.ofString "reduced"), 2, sp_reduced)], []⟩
theorem tbm_power_of : tb_power_of.Mono := Tb.mono_of fun q hq => by
  simp only [tb_power_of, List.mem_cons, List.not_mem_nil, or_false] at hq
  rcases hq with rfl | rfl
  · exact mono_whole_power
  · exact mono_reduced
def sp_power_of : Sem := fun vs g Q => match vs with
  | [.d (.int b), .d (.int e)] => (2 ≤ b ∧ b ≤ 36 ∧ -27000 ≤ e ∧ e ≤ 27000) ∧ Q (.d (dF (powP b e))) g
  | _ => False
theorem mono_power_of : SemMono sp_power_of := by
  unfold sp_power_of
  walk_at "mono"
theorem pure_power_of : ∀ vs g Q, sp_power_of vs g Q → semF tb_power_of 2 b_power_of vs g Q := by
  intro vs g Q h
  unfold sp_power_of at h
  split at h
  · rename_i b e
    obtain ⟨⟨h1, h2, h3, h4⟩, h⟩ := h
    have bb : Bd 6 b := by unfold Bd; omega
    have n1 : 0 ≤ e → ∃ k, Bd k b ∧ 0 ≤ e ∧ k * (4 * e.toNat + 4) ≤ 900000 := fun q => ⟨6, bb, q, by omega⟩
    have n2 : ¬ 0 ≤ e → ∃ k, Bd k b ∧ 0 ≤ -e ∧ k * (4 * (-e).toNat + 4) ≤ 900000 := fun q => ⟨6, bb, by omega, by omega⟩
    have n3 : ¬ 0 ≤ e → RedX 1 (b ^ (-e).toNat) := fun _ => .inr ⟨by have := powI_pos h1 (-e).toNat; omega, bd_one' (by decide)⟩
    have n4 : ¬ 0 ≤ e → nrm 1 (b ^ (-e).toNat) = powP b e := fun q => by
      rw [nrm_inv (powI_pos h1 _)]
      unfold powP
      rw [if_neg q]
    have n5 : 0 ≤ e → powP b e = (b ^ e.toNat, 1) := fun q => by
      unfold powP
      rw [if_pos q]
    walk_at "vi"
    all_goals first
      | exact n1 (by omega)
      | exact n2 (by omega)
      | exact n3 (by omega)
      | (rw [n5 (by omega)] at h; exact h)
      | (rw [n4 (by omega)]; exact h)
      | trace_state
  · exact h.elim
/-! is_power_below -/
def b_is_power_below : IS := .seq (.ifs (.cmp .lt (.var 1) (.cst (.int 0))) (.seq (.ret (.cmp .le (.ixc (.var 2) 1) (.bin .mul (.ixc (.var 2) 0) (.call 0 (.cons (.var 0) (.cons (.bin .sub (.cst (.int 0)) (.var 1)) .nil)))))) .skip) (.skip)) (.seq (.ret (.cmp .le (.bin .mul (.call 0 (.cons (.var 0) (.cons (.var 1) .nil))) (.ixc (.var 2) 1)) (.ixc (.var 2) 0))) .skip)
def tb_is_power_below : Tb := ⟨[((Str.ofString "whole_power"), 2, sp_whole_power)], []⟩
theorem tbm_is_power_below : tb_is_power_below.Mono := Tb.mono_of fun q hq => by
  simp only [tb_is_power_below, List.mem_cons, List.not_mem_nil, or_false] at hq
  subst hq
  exact mono_whole_power
def sp_is_power_below : Sem := fun vs g Q => ∃ b k x K, vs = [.d (.int b), .d (.int k), .d (dF x)] ∧ (2 ≤ b ∧ b ≤ 36 ∧ Fb K x ∧ K ≤ 18500 ∧ k.natAbs ≤ 37100) ∧ ∀ t : Bool, (t = true ↔ bp b k ≤ wo x) → Q (.d (.bool t)) g
theorem mono_is_power_below : SemMono sp_is_power_below := fun vs g Q Q' h ⟨b, k, x, K, e, a, q⟩ => ⟨b, k, x, K, e, a, fun t ht => h _ _ (q t ht)⟩
theorem pure_is_power_below : ∀ vs g Q, sp_is_power_below vs g Q → semF tb_is_power_below 3 b_is_power_below vs g Q := by
  rintro _ g Q ⟨b, k, ⟨n, d⟩, K, rfl, ⟨h1, h2, hx, hK, hk⟩, h⟩
  have bb : Bd 6 b := by unfold Bd; omega
  have hk2 : -37100 ≤ k ∧ k ≤ 37100 := by omega
  clear hk
  have w1 : ∀ e : Int, 0 ≤ e → e ≤ 37100 → ∃ k, Bd k b ∧ 0 ≤ e ∧ k * (4 * e.toNat + 4) ≤ 900000 := fun e z y => ⟨6, bb, z, by omega⟩
  have m1 : ∀ z e : Int, Bd K z → e ≤ 37100 → MulOk z (b ^ e.toNat) ∧ MulOk (b ^ e.toNat) z := fun z e hz he => by
    have q : Bd 240000 (b ^ e.toNat) := (bb.pow e.toNat).up (by omega)
    exact ⟨hz.mulOk q (by omega), q.mulOk hz (by omega)⟩
  have key := wo_ge h1 (n := n) (d := d) hx.pos 1 k
  rw [Int.one_mul] at key
  have e1 : ((1 : Int) : Rat) * bp b k = bp b k := by simp
  rw [e1] at key
  walk_at "vi"
  · rename_i hk
    refine h _ ?_
    rw [key, decide_eq_true_eq, show (max 0 k).toNat = 0 by omega, Int.pow_zero, Int.mul_one, show max 0 (-k) = 0 - k by omega]
  · exact (m1 n (0 - k) hx.b1 (by omega)).1
  · exact w1 _ (by omega) (by omega)
  · rename_i hk
    refine h _ ?_
    rw [key, decide_eq_true_eq, show (max 0 (-k)).toNat = 0 by omega, Int.pow_zero, Int.mul_one, show max 0 k = k by omega, Int.mul_comm d]
  · exact (m1 d k hx.b2 (by omega)).2
  · exact w1 _ (by omega) (by omega)
/-! power_below -/
def b_power_below : IS := .seq (.asg (.var 2) (.cst (.int 1))) (.seq (.whl (.oo (.call 0 (.cons (.var 0) (.cons (.var 2) (.cons (.var 1) .nil)))) (.nt (.call 0 (.cons (.var 0) (.cons (.bin .sub (.cst (.int 0)) (.var 2)) (.cons (.var 1) .nil)))))) (.seq (.asg (.var 2) (.bin .mul (.cst (.int 2)) (.var 2))) .skip)) (.seq (.asg (.tup (.cons (.var 3) (.cons (.var 4) .nil))) (.tup (.cons (.bin .sub (.cst (.int 0)) (.var 2)) (.cons (.var 2) .nil)))) (.seq (.whl (.cmp .gt (.bin .sub (.var 4) (.var 3)) (.cst (.int 1))) (.seq (.asg (.var 5) (.bin .fdiv (.bin .add (.var 3) (.var 4)) (.cst (.int 2)))) (.seq (.ifs (.call 0 (.cons (.var 0) (.cons (.var 5) (.cons (.var 1) .nil)))) (.seq (.asg (.var 3) (.var 5)) .skip) (.seq (.asg (.var 4) (.var 5)) .skip)) .skip))) (.seq (.ret (.var 3)) .skip))))
def tb_power_below : Tb := ⟨[((Str.ofString "is_power_below"), 3, sp_is_power_below)], []⟩
theorem tbm_power_below : tb_power_below.Mono := Tb.mono_of fun q hq => by
  simp only [tb_power_below, List.mem_cons, List.not_mem_nil, or_false] at hq
  subst hq
  exact mono_is_power_below
def sp_power_below : Sem := fun vs g Q => ∃ b x K, vs = [.d (.int b), .d (dF x)] ∧ (2 ≤ b ∧ b ≤ 36 ∧ Fb K x ∧ K ≤ 18500 ∧ 0 < x.1) ∧ ∀ k : Int, bp b k ≤ wo x → wo x < bp b (k + 1) → -(K : Int) ≤ k → k ≤ K → Q (.d (.int k)) g
theorem mono_power_below : SemMono sp_power_below := fun vs g Q Q' h ⟨b, x, K, e, a, q⟩ => ⟨b, x, K, e, a, fun k h1 h2 h3 h4 => h _ _ (q k h1 h2 h3 h4)⟩
theorem pure_power_below : ∀ vs g Q, sp_power_below vs g Q → semF tb_power_below 6 b_power_below vs g Q := by
  rintro _ g Q ⟨b, x, K, rfl, ⟨h1, h2, hx, hK, h0⟩, h⟩
  refine seq_cut tbm_power_below (fun env st => st = ⟨g, []⟩ ∧ env = [some (.d (.int b)), some (.d (dF x)), some (.d (.int 1)), none, none, none]) ?_ ?_
  · walk_at "vi"
    rfl
  rintro _ _ ⟨rfl, rfl⟩
  refine seq_cut tbm_power_below (fun env st => st = ⟨g, []⟩ ∧ ∃ s : Int, env = [some (.d (.int b)), some (.d (dF x)), some (.d (.int s)), none, none, none] ∧ 1 ≤ s ∧ s ≤ 37000 ∧ wo x < bp b s ∧ bp b (0 - s) ≤ wo x) ?_ ?_
  · refine ⟨fun m env st => st = ⟨g, []⟩ ∧ ∃ s : Int, env = [some (.d (.int b)), some (.d (dF x)), some (.d (.int s)), none, none, none] ∧ 1 ≤ s ∧ s ≤ 37000 ∧ m = (37000 - s).toNat, ⟨_, rfl, 1, rfl, by omega, by omega, rfl⟩, ?_⟩
    rintro m _ _ ⟨rfl, s, rfl, s1, s2, rfl⟩
    have m2 : MulOk 2 s := (Bd.lit64 2 (by omega)).mulOk (Bd.lit64 s (by omega)) (by decide)
    walk_at "w"
    refine ⟨b, s, x, K, rfl, ⟨h1, h2, hx, hK, by omega⟩, fun t ht => ?_⟩
    walk_at "w"
    refine ⟨fun z => ?_, fun z => ?_⟩
    · have hs := bp_le_bd h1 hx h0 (ht.mp z)
      walk_at "vi"
      all_goals first | exact m2 | (refine ⟨_, ?_, rfl, 2 * s, rfl, by omega, by omega, rfl⟩; omega)
    · walk_at "vi"
      refine ⟨b, 0 - s, x, K, rfl, ⟨h1, h2, hx, hK, by omega⟩, fun t2 ht2 => ?_⟩
      have hlt : wo x < bp b s := by
        rw [← Rat.not_le]
        intro y
        rw [ht.mpr y] at z
        cases z
      cases t2 with
      | true =>
        walk_at "vi"
        all_goals first | exact ⟨s, rfl, s1, s2, hlt, ht2.mp rfl⟩ | exact ⟨rfl, s, rfl, s1, s2, hlt, ht2.mp rfl⟩ | trace_state
      | false =>
        have hs : s < K := by
          apply Classical.byContradiction
          intro y
          have := ht2.mpr (bp_ge_bd h1 hx h0 (by omega))
          cases this
        walk_at "vi"
        all_goals first | exact m2 | (refine ⟨_, ?_, rfl, 2 * s, rfl, by omega, by omega, rfl⟩; omega)
  rintro _ _ ⟨rfl, s, rfl, s1, s2, q1, q2⟩
  refine seq_cut tbm_power_below (fun env st => st = ⟨g, []⟩ ∧ env = [some (.d (.int b)), some (.d (dF x)), some (.d (.int s)), some (.d (.int (0 - s))), some (.d (.int s)), none]) ?_ ?_
  · walk_at "vi"
    rfl
  rintro _ _ ⟨rfl, rfl⟩
  refine seq_cut tbm_power_below (fun env st => st = ⟨g, []⟩ ∧ ∃ (l : Int) (z4 z5 : Option EV), env = [some (.d (.int b)), some (.d (dF x)), some (.d (.int s)), some (.d (.int l)), z4, z5] ∧ bp b l ≤ wo x ∧ wo x < bp b (l + 1)) ?_ ?_
  · refine ⟨fun m env st => st = ⟨g, []⟩ ∧ ∃ (l t : Int) (z5 : Option EV), env = [some (.d (.int b)), some (.d (dF x)), some (.d (.int s)), some (.d (.int l)), some (.d (.int t)), z5] ∧ -37000 ≤ l ∧ l < t ∧ t ≤ 37000 ∧ bp b l ≤ wo x ∧ wo x < bp b t ∧ m = (t - l).toNat, ⟨_, rfl, 0 - s, s, none, rfl, by omega, by omega, by omega, q2, q1, rfl⟩, ?_⟩
    rintro m _ _ ⟨rfl, l, t, z5, rfl, l1, l2, l3, l4, l5, rfl⟩
    walk_at "vi"
    · rename_i hm
      have e2 : (l + t).fdiv 2 = (l + t) / 2 := Int.fdiv_eq_ediv_of_nonneg _ (by decide)
      rw [e2]
      refine ⟨b, (l + t) / 2, x, K, rfl, ⟨h1, h2, hx, hK, by omega⟩, fun tt htt => ?_⟩
      cases tt with
      | true =>
        have hb := htt.mp rfl
        walk_at "vi"
        all_goals (refine ⟨_, ?_, rfl, (l + t) / 2, t, _, rfl, by omega, by omega, by omega, hb, l5, rfl⟩; omega)
      | false =>
        have hb : wo x < bp b ((l + t) / 2) := by
          rw [← Rat.not_le]
          intro y
          have := htt.mpr y
          cases this
        walk_at "vi"
        all_goals (refine ⟨_, ?_, rfl, l, (l + t) / 2, _, rfl, by omega, by omega, by omega, l4, hb, rfl⟩; omega)
    · rename_i hm
      have et : t = l + 1 := by omega
      subst et
      first | exact ⟨l, _, _, rfl, l4, l5⟩ | exact ⟨rfl, l, _, _, rfl, l4, l5⟩
  rintro _ _ ⟨rfl, l, z4, z5, rfl, l4, l5⟩
  have lK := bp_le_bd h1 hx h0 l4
  have lK2 : -(K : Int) ≤ l := by
    apply Classical.byContradiction
    intro y
    have := bp_ge_bd h1 hx h0 (j := l + 1) (by omega)
    exact absurd l5 (Rat.not_lt.mpr this)
  walk_at "vi"
  exact h l l4 l5 lK2 lK
/-! scaled -/
def b_scaled : IS := .seq (.ret (.ife (.cmp .gt (.var 1) (.cst (.int 0))) (.tup (.cons (.ixc (.var 2) 0) (.cons (.bin .mul (.ixc (.var 2) 1) (.call 0 (.cons (.var 0) (.cons (.var 1) .nil)))) .nil))) (.tup (.cons (.bin .mul (.ixc (.var 2) 0) (.call 0 (.cons (.var 0) (.cons (.bin .sub (.cst (.int 0)) (.var 1)) .nil)))) (.cons (.ixc (.var 2) 1) .nil))))) .skip
def tb_scaled : Tb := ⟨[((Str.ofString "whole_power"), 2, sp_whole_power)], []⟩
theorem tbm_scaled : tb_scaled.Mono := Tb.mono_of fun q hq => by
  simp only [tb_scaled, List.mem_cons, List.not_mem_nil, or_false] at hq
  subst hq
  exact mono_whole_power
def sp_scaled : Sem := semF tb_scaled 3 b_scaled
theorem mono_scaled : SemMono sp_scaled := semF_mono tbm_scaled _ _
theorem pure_scaled : ∀ vs g Q, sp_scaled vs g Q → semF tb_scaled 3 b_scaled vs g Q := fun _ _ _ q => q
/-! parted -/
def b_parted : IS := .seq (.asg (.tup (.cons (.var 5) (.cons (.var 6) (.cons (.var 7) (.cons (.var 8) .nil))))) (.var 0)) (.seq (.ifs (.cmp .eq (.ixc (.var 1) 0) (.cst (.int 0))) (.seq (.ret (.tup (.cons (.cst (.int 0)) (.cons (.var 7) (.cons (.cst .none) .nil))))) .skip) (.skip)) (.seq (.asg (.var 2) (.blt .max2 0 (.cons (.var 7) (.cons (.bin .add (.bin .sub (.call 0 (.cons (.var 5) (.cons (.var 1) .nil))) (.var 6)) (.cst (.int 1))) .nil)))) (.seq (.asg (.tup (.cons (.var 9) (.cons (.var 10) .nil))) (.call 1 (.cons (.var 5) (.cons (.var 2) (.cons (.var 1) .nil))))) (.seq (.asg (.var 3) (.bin .fdivw (.var 9) (.var 10))) (.seq (.asg (.var 4) (.bin .sub (.bin .mul (.cst (.int 2)) (.bin .sub (.var 9) (.bin .mul (.var 3) (.var 10)))) (.var 10))) (.seq (.ret (.tup (.cons (.var 3) (.cons (.var 2) (.cons (.ife (.cmp .eq (.bin .mul (.var 3) (.var 10)) (.var 9)) (.cst .none) (.bin .sub (.cmp .gt (.var 4) (.cst (.int 0))) (.cmp .lt (.var 4) (.cst (.int 0))))) .nil))))) .skip))))))
def tb_parted : Tb := ⟨[((Str.ofString "power_below"), 2, sp_power_below), ((Str.ofString "scaled"), 3, sp_scaled)], []⟩
theorem tbm_parted : tb_parted.Mono := Tb.mono_of fun q hq => by
  simp only [tb_parted, List.mem_cons, List.not_mem_nil, or_false] at hq
  rcases hq with rfl | rfl
  · exact mono_power_below
  · exact mono_scaled
def sp_parted : Sem := fun vs g Q => ∃ f x K, vs = [.d (fmD f), .d (dF x)] ∧ (FmD f ∧ Fb K x ∧ K ≤ 18500 ∧ 0 < x.1) ∧ ∀ c e sd, PartD f (wo x) c e sd → Q (.d (.tuple [.int c, .int e, oI sd])) g
theorem mono_parted : SemMono sp_parted := fun vs g Q Q' h ⟨f, x, K, e, a, q⟩ => ⟨f, x, K, e, a, fun c e sd hp => h _ _ (q c e sd hp)⟩
theorem pure_parted : ∀ vs g Q, sp_parted vs g Q → semF tb_parted 11 b_parted vs g Q := by
  rintro _ g Q ⟨⟨b, p, lo, hi⟩, ⟨n, d⟩, K, rfl, ⟨hf, hx, hK, h0⟩, h⟩
  have i1 : 2 ≤ b := hf.b2
  have i2 : b ≤ 36 := hf.b36
  have i3 : -1300 ≤ lo := hf.l
  have i4 : hi ≤ 1300 := hf.h
  have i5 : lo ≤ hi := hf.lh
  have i6 : 2 ≤ p := hf.p2
  have i7 : p ≤ 120 := hf.p120
  have hd : 0 < d := hx.pos
  have n1 : 0 < n := h0
  have h0 : 0 ≤ n := by omega
  have bb : Bd 6 b := by unfold Bd; omega
  have hbl : Bd 4400 (b ^ lo.natAbs) := hf.bl
  obtain ⟨F0, _, TF, _⟩ := hf.F
  refine cut2 tbm_parted (fun env st => 0 < n ∧ st = ⟨g, []⟩ ∧ env = [some (.d (fmD ⟨b, p, lo, hi⟩)), some (.d (dF (n, d))), none, none, none, some (.d (.int b)), some (.d (.int p)), some (.d (.int lo)), some (.d (.int hi)), none, none]) ?_ ?_
  · walk_at "vi"
    · rename_i hz
      have hz : n = 0 := hz
      omega
    all_goals try rfl
  rintro _ _ ⟨n0, rfl, rfl⟩
  walk_at "vi"
  refine ⟨b, (n, d), K, rfl, ⟨i1, by omega, hx, hK, n0⟩, fun k k1 k2 k3 k4 => ?_⟩
  obtain ⟨q1, q2⟩ := part_eD hf k1 k2
  obtain ⟨e, he⟩ : ∃ e, e = max lo (k - p + 1) := ⟨_, rfl⟩
  have q1 : wo (n, d) < (Fm.T ⟨b, p, lo, hi⟩ : Rat) * bp b e := by rw [he]; exact q1
  have q2 : e = lo ∨ (Fm.T ⟨b, p, lo, hi⟩ : Rat) * bp b (e - 1) ≤ wo (n, d) := by rw [he]; exact q2
  obtain ⟨c, ca, c0, c1, cF, cle, clt⟩ := grid_floorD (n := n) hf hd h0 q1 q2
  have ca : (n * b ^ (max 0 (-e)).toNat).fdiv (d * b ^ (max 0 e).toNat) = c := ca
  obtain ⟨s1, s2⟩ := part_side i1 hd cle
  have fin : ∀ sd, SideD b (wo (n, d)) c e sd → Q (.d (.tuple [.int c, .int e, oI sd])) g := fun sd hs => h c e sd ⟨by show lo ≤ e; omega, c0, c1, cF, cle, clt, hs⟩
  have w1 : ∀ e : Int, 0 ≤ e → e ≤ 37000 → ∃ k, Bd k b ∧ 0 ≤ e ∧ k * (4 * e.toNat + 4) ≤ 900000 := fun e z y => ⟨6, bb, z, by omega⟩
  have bP : Bd 112000 (b ^ (max 0 e).toNat) := (bb.pow _).up (by omega)
  have bM : Bd 112000 (b ^ (max 0 (-e)).toNat) := (bb.pow _).up (by omega)
  have pP := powI_pos i1 (max 0 e).toNat
  have bD : Bd 131000 (d * b ^ (max 0 e).toNat) := (hx.b2.mul bP).up (by omega)
  have D0 : 0 < d * b ^ (max 0 e).toNat := Int.mul_pos hd pP
  have bN : Bd 131000 (n * b ^ (max 0 (-e)).toNat) := (hx.b1.mul bM).up (by omega)
  have bc : Bd 640 c := Bd.of_natAbs hf.bp (by show c.natAbs ≤ (Fm.T ⟨b, p, lo, hi⟩).natAbs; omega)
  have o1 : d * b ^ (max 0 e).toNat ≠ 0 ∧ ((d * b ^ (max 0 e).toNat).natAbs.log2 < 9000 ∨ (n * b ^ (max 0 (-e)).toNat).natAbs.log2 ≤ (d * b ^ (max 0 e).toNat).natAbs.log2 + 4400) := ⟨by omega, .inr (quot_log (Int.mul_nonneg h0 (by have := powI_pos i1 (max 0 (-e)).toNat; omega)) D0 ca bc)⟩
  have o2 : MulOk c (d * b ^ (max 0 e).toNat) := bc.mulOk bD (by decide)
  have o3 : MulOk 2 (n * b ^ (max 0 (-e)).toNat - c * (d * b ^ (max 0 e).toNat)) := (Bd.lit64 2 (by omega)).mulOk (bN.sub (bc.mul bD)) (by decide)
  have o4 : MulOk d (b ^ (max 0 e).toNat) := hx.b2.mulOk bP (by omega)
  have o5 : MulOk n (b ^ (max 0 (-e)).toNat) := hx.b1.mulOk bM (by omega)
  have tail : ∀ N D : Int, N = n * b ^ (max 0 (-e)).toNat → D = d * b ^ (max 0 e).toNat → (D ≠ 0 ∧ (D.natAbs.log2 < 9000 ∨ N.natAbs.log2 ≤ D.natAbs.log2 + 4400)) ∧ N.fdiv D = c ∧ MulOk c D ∧ MulOk 2 (N - c * D) ∧ (c * D = N → SideD b (wo (n, d)) c e none) ∧ (c * D ≠ N → SideD b (wo (n, d)) c e (some ((if 0 < 2 * (N - c * D) - D then 1 else 0) - (if 2 * (N - c * D) - D < 0 then 1 else 0)))) := fun N D hN hD => by
    subst hN hD
    exact ⟨o1, ca, o2, o3, s1, fun z => s2 z _ rfl⟩
  clear bD bP bM bN
  refine seq_cut tbm_parted (fun env st => ∃ N D, (N = n * b ^ (max 0 (-e)).toNat ∧ D = d * b ^ (max 0 e).toNat) ∧ st = ⟨g, []⟩ ∧ env = [some (.d (fmD ⟨b, p, lo, hi⟩)), some (.d (dF (n, d))), some (.d (.int e)), none, none, some (.d (.int b)), some (.d (.int p)), some (.d (.int lo)), some (.d (.int hi)), some (.d (.int N)), some (.d (.int D))]) ?_ ?_
  · rw [← he]
    walk_at "vi"
    · rename_i hz
      refine ⟨n, d * b ^ e.toNat, ⟨?_, ?_⟩, rfl, rfl⟩
      · rw [show (max 0 (-e)).toNat = 0 by omega, Int.pow_zero, Int.mul_one]
      · rw [show max 0 e = e by omega]
    · rename_i hz
      rw [show max 0 e = e by omega] at o4
      exact o4
    · exact w1 _ (by omega) (by omega)
    · rename_i hz
      refine ⟨n * b ^ (0 - e).toNat, d, ⟨?_, ?_⟩, rfl, rfl⟩
      · rw [show max 0 (-e) = 0 - e by omega]
      · rw [show (max 0 e).toNat = 0 by omega, Int.pow_zero, Int.mul_one]
    · rename_i hz
      rw [show max 0 (-e) = 0 - e by omega] at o5
      exact o5
    · exact w1 _ (by omega) (by omega)
  rintro _ _ ⟨N, D, ⟨hN, hD⟩, rfl, rfl⟩
  obtain ⟨t1, t2, t3, t4, t5, t6⟩ := tail N D hN hD
  rw [← t2] at t3 t4
  walk_at "vi"
  all_goals try exact t1
  all_goals try exact t3
  all_goals try exact t4
  all_goals rw [t2] at *
  · rename_i z
    exact fin none (t5 z)
  · rename_i z
    have := fin _ (t6 z)
    refine Eq.mp (congrArg (fun z : Int => Q (.d (.tuple [.int c, .int e, .int z])) g) ?_) this
    simp only [decide_eq_true_eq]
/-! raised -/
def b_raised : IS := .seq (.ifs (.cmp .eq (.bin .add (.var 1) (.cst (.int 1))) (.call 0 (.cons (.ixc (.var 0) 0) (.cons (.ixc (.var 0) 1) .nil)))) (.seq (.ret (.tup (.cons (.call 0 (.cons (.ixc (.var 0) 0) (.cons (.bin .sub (.ixc (.var 0) 1) (.cst (.int 1))) .nil))) (.cons (.bin .add (.var 2) (.cst (.int 1))) .nil)))) .skip) (.skip)) (.seq (.ret (.tup (.cons (.bin .add (.var 1) (.cst (.int 1))) (.cons (.var 2) .nil)))) .skip)
def tb_raised : Tb := ⟨[((Str.ofString "whole_power"), 2, sp_whole_power)], []⟩
theorem tbm_raised : tb_raised.Mono := Tb.mono_of fun q hq => by
  simp only [tb_raised, List.mem_cons, List.not_mem_nil, or_false] at hq
  subst hq
  exact mono_whole_power
def sp_raised : Sem := fun vs g Q => ∃ f c e, vs = [.d (fmD f), .d (.int c), .d (.int e)] ∧ FmD f ∧ Q (if c + 1 = f.T then .d (.tuple [.int f.F, .int (e + 1)]) else .d (.tuple [.int (c + 1), .int e])) g
theorem mono_raised : SemMono sp_raised := fun vs g Q Q' h ⟨f, c, e, e', a, q⟩ => ⟨f, c, e, e', a, h _ _ q⟩
theorem pure_raised : ∀ vs g Q, sp_raised vs g Q → semF tb_raised 3 b_raised vs g Q := by
  rintro _ g Q ⟨⟨b, p, lo, hi⟩, c, e, rfl, hf, h⟩
  have w1 := hf.pw (e := p) (by have := hf.p2; have z : p = Fm.p ⟨b, p, lo, hi⟩ := rfl; omega) (by have := hf.p120; have z : p = Fm.p ⟨b, p, lo, hi⟩ := rfl; omega)
  have w2 := hf.pw (e := p - 1) (by have := hf.p2; have z : p = Fm.p ⟨b, p, lo, hi⟩ := rfl; omega) (by have := hf.p120; have z : p = Fm.p ⟨b, p, lo, hi⟩ := rfl; omega)
  walk_at "vi"
  all_goals first
    | exact w1
    | exact w2
    | (rw [if_pos (by assumption)] at h; exact h)
    | (rw [if_neg (by assumption)] at h; exact h)
    | trace_state
/-! is_raised -/
def b_is_raised : IS := .seq (.ifs (.oo (.isN (.var 3)) (.cmp .eq (.var 0) (.cst (.str (Str.ofString "zero"))))) (.seq (.ret (.cst (.bool false))) .skip) (.skip)) (.seq (.ifs (.cmp .isin (.var 0) (.tup (.cons (.cst (.str (Str.ofString "up"))) (.cons (.cst (.str (Str.ofString "down"))) .nil)))) (.seq (.ret (.cmp .eq (.cmp .eq (.var 0) (.cst (.str (Str.ofString "up")))) (.cmp .eq (.var 1) (.cst (.int 0))))) .skip) (.skip)) (.seq (.ret (.ife (.cmp .eq (.var 3) (.cst (.int 0))) (.oo (.cmp .eq (.var 0) (.cst (.str (Str.ofString "away")))) (.cmp .eq (.bin .mod (.var 2) (.cst (.int 2))) (.cst (.int 1)))) (.cmp .gt (.var 3) (.cst (.int 0))))) .skip))
def tb_is_raised : Tb := ⟨[], []⟩
theorem tbm_is_raised : tb_is_raised.Mono := Tb.mono_of fun q hq => by
  simp only [tb_is_raised, List.mem_cons, List.not_mem_nil, or_false] at hq
def sp_is_raised : Sem := fun vs g Q => ∃ way s c sd, vs = [.d (.str way), .d (.int s), .d (.int c), .d (oI sd)] ∧ way ∈ ways5 ∧ Q (.d (.bool (upB way s c sd))) g
theorem mono_is_raised : SemMono sp_is_raised := fun vs g Q Q' h ⟨way, s, c, sd, e, a, q⟩ => ⟨way, s, c, sd, e, a, h _ _ q⟩
theorem pure_is_raised : ∀ vs g Q, sp_is_raised vs g Q → semF tb_is_raised 4 b_is_raised vs g Q := by
  rintro _ g Q ⟨way, s, c, sd, rfl, hw, h⟩
  have n1 : ("even" : Str) ≠ "zero" := by decide
  have n2 : ("away" : Str) ≠ "zero" := by decide
  have n3 : ("up" : Str) ≠ "zero" := by decide
  have n4 : ("down" : Str) ≠ "zero" := by decide
  have n5 : ("even" : Str) ≠ "up" := by decide
  have n6 : ("even" : Str) ≠ "down" := by decide
  have n7 : ("away" : Str) ≠ "up" := by decide
  have n8 : ("away" : Str) ≠ "down" := by decide
  have n9 : ("down" : Str) ≠ "up" := by decide
  have n10 : ("even" : Str) ≠ "away" := by decide
  simp only [ways5, List.mem_cons, List.not_mem_nil, or_false] at hw
  cases sd with
  | none =>
    rcases hw with rfl | rfl | rfl | rfl | rfl
    all_goals
      walk_at "vi"
      all_goals try (exfalso; contradiction)
      all_goals try exact h
      all_goals trace_state
  | some z =>
    have ez : PyData.eqv (oI (some z)) (.int 0) = decide (z = 0) := eqv_int z 0
    rcases hw with rfl | rfl | rfl | rfl | rfl
    all_goals
      walk_at "vi"
      all_goals try (exfalso; contradiction)
      all_goals try exact h
      all_goals
        refine Eq.mp (congrArg (fun t : Bool => Q (.d (.bool t)) g) ?_) h
        simp only [ez] at *
        simp_all [upB, eqv_int, PyData.eqv]
        all_goals try rw [show (("down" : Str) == "up") = false from beq_eq_false_iff_ne.mpr n9]
        all_goals simp only [Bool.beq_eq_decide_eq]
        all_goals by_cases e : s = 0 <;> simp [e]
/-! finished -/
def b_finished : IS := .seq (.asg (.tup (.cons (.var 5) (.cons (.var 6) (.cons (.var 7) (.cons (.var 8) .nil))))) (.var 0)) (.seq (.asg (.tup (.cons (.var 9) (.cons (.var 10) (.cons (.var 11) .nil)))) (.var 3)) (.seq (.ifs (.call 0 (.cons (.var 1) (.cons (.var 2) (.cons (.var 9) (.cons (.var 11) .nil))))) (.seq (.asg (.tup (.cons (.var 9) (.cons (.var 10) .nil))) (.call 1 (.cons (.var 0) (.cons (.var 9) (.cons (.var 10) .nil))))) .skip) (.skip)) (.seq (.ifs (.cmp .gt (.var 10) (.var 8)) (.seq (.asg (.var 12) (.oo (.cmp .isin (.var 1) (.tup (.cons (.cst (.str (Str.ofString "even"))) (.cons (.cst (.str (Str.ofString "away"))) .nil)))) (.cmp .eq (.var 1) (.ife (.cmp .eq (.var 2) (.cst (.int 0))) (.cst (.str (Str.ofString "up"))) (.cst (.str (Str.ofString "down"))))))) (.seq (.ret (.tup (.cons (.ife (.var 12) (.tup (.cons (.cst (.str (Str.ofString "inf"))) (.cons (.var 2) .nil))) (.tup (.cons (.cst (.str (Str.ofString "num"))) (.cons (.var 2) (.cons (.bin .sub (.call 2 (.cons (.var 5) (.cons (.var 6) .nil))) (.cst (.int 1))) (.cons (.var 8) .nil)))))) (.cons (.tup (.cons (.cst (.str (Str.ofString "inexact"))) (.cons (.cst (.str (Str.ofString "over"))) .nil))) .nil)))) .skip)) (.skip)) (.seq (.asg (.var 4) (.an (.notN (.var 11)) (.cmp .lt (.ixc (.var 3) 0) (.call 2 (.cons (.var 5) (.cons (.bin .sub (.var 6) (.cst (.int 1))) .nil)))))) (.seq (.ret (.tup (.cons (.tup (.cons (.cst (.str (Str.ofString "num"))) (.cons (.var 2) (.cons (.var 9) (.cons (.var 10) .nil))))) (.cons (.ife (.var 4) (.tup (.cons (.cst (.str (Str.ofString "inexact"))) (.cons (.cst (.str (Str.ofString "tiny"))) .nil))) (.ife (.isN (.var 11)) (.tup (.nil)) (.tup (.cons (.cst (.str (Str.ofString "inexact"))) .nil)))) .nil)))) .skip)))))
def tb_finished : Tb := ⟨[((Str.ofString "is_raised"), 4, sp_is_raised), ((Str.ofString "raised"), 3, sp_raised), ((Str.ofString "whole_power"), 2, sp_whole_power)], []⟩
theorem tbm_finished : tb_finished.Mono := Tb.mono_of fun q hq => by
  simp only [tb_finished, List.mem_cons, List.not_mem_nil, or_false] at hq
  rcases hq with rfl | rfl | rfl
  · exact mono_is_raised
  · exact mono_raised
  · exact mono_whole_power
def sp_finished : Sem := fun vs g Q => ∃ f way s c e sd, vs = [.d (fmD f), .d (.str way), .d (.int s), .d (.tuple [.int c, .int e, oI sd])] ∧ (FmD f ∧ way ∈ ways5 ∧ (s = 0 ∨ s = 1)) ∧ Q (.d (finD f way s c e sd)) g
theorem mono_finished : SemMono sp_finished := fun vs g Q Q' h ⟨f, way, s, c, e, sd, e', a, q⟩ => ⟨f, way, s, c, e, sd, e', a, h _ _ q⟩
theorem pure_finished : ∀ vs g Q, sp_finished vs g Q → semF tb_finished 13 b_finished vs g Q := by
  rintro _ g Q ⟨⟨b, p, lo, hi⟩, way, s, c, e, sd, rfl, ⟨hf, hw, hs⟩, h⟩
  have w1 := hf.pw (e := p) (by have := hf.p2; have z : p = Fm.p ⟨b, p, lo, hi⟩ := rfl; omega) (by have := hf.p120; have z : p = Fm.p ⟨b, p, lo, hi⟩ := rfl; omega)
  have w2 := hf.pw (e := p - 1) (by have := hf.p2; have z : p = Fm.p ⟨b, p, lo, hi⟩ := rfl; omega) (by have := hf.p120; have z : p = Fm.p ⟨b, p, lo, hi⟩ := rfl; omega)
  refine cut3 tbm_finished (fun env st => st = ⟨g, []⟩ ∧ env = [some (.d (fmD ⟨b, p, lo, hi⟩)), some (.d (.str way)), some (.d (.int s)), some (.d (.tuple [.int c, .int e, oI sd])), none, some (.d (.int b)), some (.d (.int p)), some (.d (.int lo)), some (.d (.int hi)), some (.d (.int (upC ⟨b, p, lo, hi⟩ way s c e sd).1)), some (.d (.int (upC ⟨b, p, lo, hi⟩ way s c e sd).2)), some (.d (oI sd)), none]) ?_ ?_
  · walk_at "vi"
    refine ⟨way, s, c, sd, rfl, hw, ?_⟩
    cases hu : upB way s c sd with
    | true =>
      walk_at "vi"
      refine ⟨⟨b, p, lo, hi⟩, c, e, rfl, hf, ?_⟩
      by_cases hc : c + 1 = Fm.T ⟨b, p, lo, hi⟩
      · rw [if_pos hc]
        walk_at "vi"
        unfold upC uN
        rw [if_pos hu, if_pos hc]
        rfl
      · rw [if_neg hc]
        walk_at "vi"
        unfold upC uN
        rw [if_pos hu, if_neg hc]
        rfl
    | false =>
      walk_at "vi"
      unfold upC
      rw [if_neg (by rw [hu]; decide)]
      rfl
  rintro _ _ ⟨rfl, rfl⟩
  have hA : Fm.hi ⟨b, p, lo, hi⟩ < (upC ⟨b, p, lo, hi⟩ way s c e sd).2 → infB way s = true → Q (.d (.tuple [.tuple [.str "inf", .int s], .tuple [.str "inexact", .str "over"]])) g := fun x y => by
    have q := h
    unfold finD finV finG at q
    rw [if_pos x, if_pos y, if_pos x] at q
    exact q
  have hB : Fm.hi ⟨b, p, lo, hi⟩ < (upC ⟨b, p, lo, hi⟩ way s c e sd).2 → infB way s = false → Q (.d (.tuple [.tuple [.str "num", .int s, .int (b ^ p.toNat - 1), .int hi], .tuple [.str "inexact", .str "over"]])) g := fun x y => by
    have q := h
    unfold finD finV finG at q
    rw [if_pos x, if_neg (by rw [y]; decide), if_pos x] at q
    exact q
  have hC : ¬ Fm.hi ⟨b, p, lo, hi⟩ < (upC ⟨b, p, lo, hi⟩ way s c e sd).2 → isNonD (oI sd) = false → c < Fm.F ⟨b, p, lo, hi⟩ → Q (.d (.tuple [.tuple [.str "num", .int s, .int (upC ⟨b, p, lo, hi⟩ way s c e sd).1, .int (upC ⟨b, p, lo, hi⟩ way s c e sd).2], .tuple [.str "inexact", .str "tiny"]])) g := fun x y z => by
    have q := h
    have y : sd.isSome = true := by cases sd <;> first | rfl | cases y
    unfold finD finV finG at q
    rw [if_neg x, if_neg x, if_pos ⟨y, z⟩] at q
    exact q
  have hD : ¬ Fm.hi ⟨b, p, lo, hi⟩ < (upC ⟨b, p, lo, hi⟩ way s c e sd).2 → isNonD (oI sd) = true → Q (.d (.tuple [.tuple [.str "num", .int s, .int (upC ⟨b, p, lo, hi⟩ way s c e sd).1, .int (upC ⟨b, p, lo, hi⟩ way s c e sd).2], .tuple []])) g := fun x y => by
    have q := h
    have y : sd = none := by cases sd <;> first | rfl | cases y
    subst y
    unfold finD finV finG at q
    rw [if_neg x, if_neg x, if_neg (fun z => by cases z.1), if_pos (show (none : Option Int).isNone = true from rfl)] at q
    exact q
  have hE : ¬ Fm.hi ⟨b, p, lo, hi⟩ < (upC ⟨b, p, lo, hi⟩ way s c e sd).2 → isNonD (oI sd) = false → ¬ c < Fm.F ⟨b, p, lo, hi⟩ → Q (.d (.tuple [.tuple [.str "num", .int s, .int (upC ⟨b, p, lo, hi⟩ way s c e sd).1, .int (upC ⟨b, p, lo, hi⟩ way s c e sd).2], .tuple [.str "inexact"]])) g := fun x y z => by
    have q := h
    have y : sd.isNone = false := by cases sd <;> first | rfl | cases y
    unfold finD finV finG at q
    rw [if_neg x, if_neg x, if_neg (fun w => z w.2), if_neg (by rw [y]; decide)] at q
    exact q
  clear h
  generalize upC ⟨b, p, lo, hi⟩ way s c e sd = u at hA hB hC hD hE ⊢
  obtain ⟨c', e'⟩ := u
  walk_at "vi"
  · rename_i q1 q2 q3
    exact hA q1 (by unfold infB; rcases q2 with rfl | rfl <;> simp)
  · rename_i q1 q2 q3 q4
    exact hA q1 (by unfold infB; rw [if_pos q3, q4]; simp)
  · rename_i q1 q2 q3 q4
    exact hB q1 (by
      unfold infB
      rw [if_pos q3, decide_eq_false (fun z => q2.1 z.symm), decide_eq_false (fun z => q2.2 z.symm), decide_eq_false q4]
      rfl)
  · rename_i q1 q2 q3 q4
    exact hA q1 (by unfold infB; rw [if_neg q3, q4]; simp)
  · rename_i q1 q2 q3 q4
    exact hB q1 (by
      unfold infB
      rw [if_neg q3, decide_eq_false (fun z => q2.1 z.symm), decide_eq_false (fun z => q2.2 z.symm), decide_eq_false q4]
      rfl)
  · rename_i q1 q2 q3
    exact hC (by show ¬ hi < e'; omega) q2 q3
  · rename_i q1 q2 q3 q4
    rw [q2] at q4
    cases q4
  · rename_i q1 q2 q3 q4
    exact hE (by show ¬ hi < e'; omega) q2 (by show ¬ c < b ^ (p - 1).toNat; omega)
  · rename_i q1 q2 q3 q4
    exact hD (by show ¬ hi < e'; omega) q2
  · rename_i q1 q2 q3 q4
    rw [q2] at q4
    cases q4
/-! without_sign -/
def b_without_sign : IS := .seq (.ret (.tup (.cons (.blt .abs 0 (.cons (.ixc (.var 0) 0) .nil)) (.cons (.ixc (.var 0) 1) .nil)))) .skip
def tb_without_sign : Tb := ⟨[], []⟩
theorem tbm_without_sign : tb_without_sign.Mono := Tb.mono_of fun q hq => by
  simp only [tb_without_sign, List.mem_cons, List.not_mem_nil, or_false] at hq
def sp_without_sign : Sem := fun vs g Q => ∃ x, vs = [.d (dF x)] ∧ Q (.d (dF (absP x))) g
theorem mono_without_sign : SemMono sp_without_sign := fun vs g Q Q' h ⟨x, e, q⟩ => ⟨x, e, h _ _ q⟩
theorem pure_without_sign : ∀ vs g Q, sp_without_sign vs g Q → semF tb_without_sign 1 b_without_sign vs g Q := by
  rintro _ g Q ⟨⟨x1, x2⟩, rfl, h⟩
  walk_at "vi"
  all_goals first | exact h | trace_state
/-! rounded -/
def b_rounded : IS := .seq (.ifs (.cmp .eq (.ixc (.var 2) 0) (.cst (.int 0))) (.seq (.ret (.tup (.cons (.tup (.cons (.cst (.str (Str.ofString "num"))) (.cons (.var 3) (.cons (.cst (.int 0)) (.cons (.ixc (.var 0) 2) .nil))))) (.cons (.tup (.nil)) .nil)))) .skip) (.skip)) (.seq (.ret (.call 0 (.cons (.var 0) (.cons (.var 1) (.cons (.blt .int 0 (.cons (.cmp .lt (.ixc (.var 2) 0) (.cst (.int 0))) .nil)) (.cons (.call 1 (.cons (.var 0) (.cons (.call 2 (.cons (.var 2) .nil)) .nil))) .nil)))))) .skip)
def tb_rounded : Tb := ⟨[((Str.ofString "finished"), 4, sp_finished), ((Str.ofString "parted"), 2, sp_parted), ((Str.ofString "without_sign"), 1, sp_without_sign)], []⟩
theorem tbm_rounded : tb_rounded.Mono := Tb.mono_of fun q hq => by
  simp only [tb_rounded, List.mem_cons, List.not_mem_nil, or_false] at hq
  rcases hq with rfl | rfl | rfl
  · exact mono_finished
  · exact mono_parted
  · exact mono_without_sign
def sp_rounded : Sem := fun vs g Q => ∃ f way x s K, vs = [.d (fmD f), .d (.str way), .d (dF x), .d (.int s)] ∧ (FmD f ∧ way ∈ ways5 ∧ Fb K x ∧ K ≤ 18500 ∧ x.1 ≠ 0) ∧ ∀ d, RndD f way (sgF x) (wo (absP x)) d → Q (.d d) g
theorem mono_rounded : SemMono sp_rounded := fun vs g Q Q' h ⟨f, way, x, s, K, e', a, q⟩ => ⟨f, way, x, s, K, e', a, fun d r => h _ _ (q d r)⟩
theorem pure_rounded : ∀ vs g Q, sp_rounded vs g Q → semF tb_rounded 4 b_rounded vs g Q := by
  rintro _ g Q ⟨⟨b, p, lo, hi⟩, way, ⟨n, d⟩, s, K, rfl, ⟨hf, hw, hx, hK, hz⟩, h⟩
  have dt : (if decide (n < 0) = true then (1 : Int) else 0) = sgF (n, d) := by simp [sgF]
  have hz : n ≠ 0 := hz
  walk_at "vp"
  refine ⟨(n, d), rfl, ?_⟩
  walk_at "vi"
  refine ⟨⟨b, p, lo, hi⟩, absP (n, d), K, rfl, ⟨hf, hx.absP, hK, by show (0 : Int) < (n.natAbs : Int); omega⟩, fun c e sd hp => ?_⟩
  walk_at "vi"
  refine ⟨⟨b, p, lo, hi⟩, way, _, c, e, sd, rfl, ⟨hf, hw, by rw [dt]; exact sgF01 _⟩, ?_⟩
  rw [dt]
  exact h _ ⟨c, e, sd, hp, rfl⟩
/-! decimal_worth -/
def b_decimal_worth : IS := .seq (.asg (.tup (.cons (.var 1) (.cons (.var 2) (.cons (.var 3) .nil)))) (.var 0)) (.seq (.ret (.call 0 (.cons (.tup (.cons (.ife (.cmp .eq (.var 1) (.cst (.int 1))) (.neg (.var 2)) (.var 2)) (.cons (.cst (.int 1)) .nil))) (.cons (.call 1 (.cons (.cst (.int 10)) (.cons (.var 3) .nil))) .nil)))) .skip)
def tb_decimal_worth : Tb := ⟨[((Str.ofString "times"), 2, sp_times), ((Str.ofString "power_of"), 2, sp_power_of)], []⟩
theorem tbm_decimal_worth : tb_decimal_worth.Mono := Tb.mono_of fun q hq => by
  simp only [tb_decimal_worth, List.mem_cons, List.not_mem_nil, or_false] at hq
  rcases hq with rfl | rfl
  · exact mono_times
  · exact mono_power_of
def sp_decimal_worth : Sem := fun vs g Q => ∃ s c e, vs = [.d (decD s c e)] ∧ ((s = 0 ∨ s = 1) ∧ Bd 8900 c ∧ -27000 ≤ e ∧ e ≤ 27000) ∧ Q (.d (dF (wv 10 s c e))) g
theorem mono_decimal_worth : SemMono sp_decimal_worth := fun vs g Q Q' h ⟨s, c, e, e', a, q⟩ => ⟨s, c, e, e', a, h _ _ q⟩
theorem pure_decimal_worth : ∀ vs g Q, sp_decimal_worth vs g Q → semF tb_decimal_worth 4 b_decimal_worth vs g Q := by
  rintro _ g Q ⟨s, c, e, rfl, ⟨hs, bc, h1, h2⟩, h⟩
  have bt : Bd 4 (10 : Int) := by unfold Bd; decide
  have P : ∃ P, P = powP 10 e ∧ Fb 110000 P ∧ (P.2 = 1 ∨ P.1 = 1) := by
    refine ⟨_, rfl, ⟨(powP_can ten2 e).pos, ?_, ?_⟩, ?_⟩
    · unfold powP
      split
      · exact (bt.pow _).up (by omega)
      · exact bd_one' (by decide)
    · unfold powP
      split
      · exact bd_one' (by decide)
      · exact (bt.pow _).up (by omega)
    · unfold powP
      split
      · exact .inl rfl
      · exact .inr rfl
  obtain ⟨P, hP, fP, oP⟩ := P
  have key : ∀ n : Int, n = (if s = 1 then -c else c) → Q (.d (dF (mulP (n, 1) P))) g := fun n hn => by
    rw [hn, hP, wv_ten]
    exact h
  have red : ∀ n : Int, Bd 8900 n → RedX ((n, (1 : Int)).1 * P.1) ((n, (1 : Int)).2 * P.2) := fun n bn => by
    have p0 := fP.pos
    show RedX (n * P.1) (1 * P.2)
    rw [Int.one_mul]
    rcases oP with o | o
    · rw [o]
      exact .inl (RedOk.left ⟨by decide, bd_one' (by decide)⟩)
    · rw [o, Int.mul_one]
      exact .inr ⟨by omega, bn.up (by decide)⟩
  have ask : (2 : Int) ≤ 10 ∧ (10 : Int) ≤ 36 ∧ -27000 ≤ e ∧ e ≤ 27000 := ⟨by decide, by decide, h1, h2⟩
  have fn : ∀ n : Int, Bd 8900 n → Fb 8900 (n, 1) := fun n bn => ⟨by show (0 : Int) < 1; decide, bn, bd_one' (by decide)⟩
  walk_at "w"
  refine And.intro rfl ?_
  walk_at "w"
  refine And.intro (.inl rfl) ?_
  rw [eqv_int]
  refine And.intro (fun z => ?_) (fun z => ?_)
  · have z := of_decide_eq_true z
    walk_at "w"
    refine And.intro ask ?_
    rw [← hP]
    walk_at "w"
    refine ⟨(-c, 1), P, 8900, 110000, rfl, ⟨fn _ bc.neg, fP, by decide, red _ bc.neg⟩, ?_⟩
    exact key _ (by rw [if_pos z])
  · have z := of_decide_eq_false z
    walk_at "w"
    refine And.intro ask ?_
    rw [← hP]
    walk_at "w"
    refine ⟨(c, 1), P, 8900, 110000, rfl, ⟨fn _ bc, fP, by decide, red _ bc⟩, ?_⟩
    exact key _ (by rw [if_neg z])
/-! zero -/
def b_zero : IS := .seq (.ret (.tup (.cons (.cst (.str (Str.ofString "num"))) (.cons (.var 1) (.cons (.cst (.int 0)) (.cons (.ixc (.var 0) 2) .nil)))))) .skip
def tb_zero : Tb := ⟨[], []⟩
theorem tbm_zero : tb_zero.Mono := Tb.mono_of fun q hq => by
  simp only [tb_zero, List.mem_cons, List.not_mem_nil, or_false] at hq
def sp_zero : Sem := semF tb_zero 2 b_zero
theorem mono_zero : SemMono sp_zero := semF_mono tbm_zero _ _
theorem pure_zero : ∀ vs g Q, sp_zero vs g Q → semF tb_zero 2 b_zero vs g Q := fun _ _ _ q => q
/-! room_of -/
def b_room_of : IS := .seq (.asg (.tup (.cons (.var 1) (.cons (.var 2) (.cons (.var 3) (.cons (.var 4) .nil))))) (.var 0)) (.seq (.ret (.bin .add (.bin .mul (.cst (.int 2)) (.bin .add (.bin .add (.var 2) (.blt .abs 0 (.cons (.var 3) .nil))) (.blt .abs 0 (.cons (.var 4) .nil)))) (.cst (.int 4)))) .skip)
def tb_room_of : Tb := ⟨[], []⟩
theorem tbm_room_of : tb_room_of.Mono := Tb.mono_of fun q hq => by
  simp only [tb_room_of, List.mem_cons, List.not_mem_nil, or_false] at hq
def sp_room_of : Sem := semF tb_room_of 5 b_room_of
theorem mono_room_of : SemMono sp_room_of := semF_mono tbm_room_of _ _
theorem pure_room_of : ∀ vs g Q, sp_room_of vs g Q → semF tb_room_of 5 b_room_of vs g Q := fun _ _ _ q => q
/-! bounded -/
def b_bounded : IS := .seq (.asg (.tup (.cons (.var 2) (.cons (.var 3) (.cons (.var 4) .nil)))) (.var 1)) (.seq (.asg (.tup (.cons (.var 5) (.cons (.var 6) .nil))) (.tup (.cons (.call 0 (.cons (.var 0) .nil)) (.cons (.blt .len 0 (.cons (.blt .str 0 (.cons (.var 3) .nil)) .nil)) .nil)))) (.seq (.ret (.tup (.cons (.var 2) (.cons (.var 3) (.cons (.blt .max2 0 (.cons (.blt .min2 0 (.cons (.var 4) (.cons (.bin .sub (.bin .add (.var 5) (.cst (.int 1))) (.var 6)) .nil))) (.cons (.bin .sub (.bin .sub (.neg (.var 5)) (.cst (.int 1))) (.var 6)) .nil))) .nil))))) .skip))
def tb_bounded : Tb := ⟨[((Str.ofString "room_of"), 1, sp_room_of)], []⟩
theorem tbm_bounded : tb_bounded.Mono := Tb.mono_of fun q hq => by
  simp only [tb_bounded, List.mem_cons, List.not_mem_nil, or_false] at hq
  subst hq
  exact mono_room_of
def sp_bounded : Sem := fun vs g Q => ∃ f s c e, vs = [.d (fmD f), .d (decD s c e)] ∧ (FmD f ∧ 0 ≤ c ∧ Bd 14000 c) ∧ Q (.d (decD s c (clipE f c e))) g
theorem mono_bounded : SemMono sp_bounded := fun vs g Q Q' h ⟨f, s, c, e, e', a, q⟩ => ⟨f, s, c, e, e', a, h _ _ q⟩
theorem pure_bounded : ∀ vs g Q, sp_bounded vs g Q → semF tb_bounded 7 b_bounded vs g Q := by
  rintro _ g Q ⟨⟨b, p, lo, hi⟩, s, c, e, rfl, ⟨hf, c0, bc⟩, h⟩
  have l1 : -1300 ≤ lo := hf.l
  have h1 : hi ≤ 1300 := hf.h
  have lh : lo ≤ hi := hf.lh
  have p2 : 2 ≤ p := hf.p2
  have p3 : p ≤ 120 := hf.p120
  have m2 : MulOk 2 (p + (lo.natAbs : Int) + (hi.natAbs : Int)) := (Bd.lit64 2 (by decide)).mulOk (Bd.lit64 _ (by omega)) (by decide)
  have dl : digN c ≤ sizeLine := by
    have k := (dig_iff c0 (k := 4300) (by decide)).mpr ?_
    · exact Nat.le_trans k (by decide)
    · have := bc.show (by decide)
      have e : ((c.natAbs : Nat) : Int) < ((10 ^ 4300 : Nat) : Int) := by exact_mod_cast this
      rw [show ((c.natAbs : Nat) : Int) = c by omega] at e
      refine Int.lt_of_lt_of_le e (Int.le_of_eq ?_)
      rw [Int.natCast_pow]
      rfl
  walk_at "w"
  refine And.intro rfl ?_
  walk_at "w"
  refine And.intro rfl ?_
  walk_at "w"
  refine And.intro m2 ?_
  walk_at "w"
  refine And.intro (.inr (str_ok bc)) ?_
  walk_at "w"
  rw [dig_str]
  refine And.intro dl ?_
  walk_at "w"
  refine And.intro rfl ?_
  walk_at "w"
  exact h
/-! read_decimal -/
def b_read_decimal : IS := .seq (.ifs (.cmp .eq (.ixc (.var 2) 1) (.cst (.int 0))) (.seq (.ret (.tup (.cons (.call 0 (.cons (.var 0) (.cons (.ixc (.var 2) 0) .nil))) (.cons (.tup (.nil)) .nil)))) .skip) (.skip)) (.seq (.ret (.call 1 (.cons (.var 0) (.cons (.var 1) (.cons (.call 2 (.cons (.call 3 (.cons (.var 0) (.cons (.var 2) .nil))) .nil)) (.cons (.ixc (.var 2) 0) .nil)))))) .skip)
def tb_read_decimal : Tb := ⟨[((Str.ofString "zero"), 2, sp_zero), ((Str.ofString "rounded"), 4, sp_rounded), ((Str.ofString "decimal_worth"), 1, sp_decimal_worth), ((Str.ofString "bounded"), 2, sp_bounded)], []⟩
theorem tbm_read_decimal : tb_read_decimal.Mono := Tb.mono_of fun q hq => by
  simp only [tb_read_decimal, List.mem_cons, List.not_mem_nil, or_false] at hq
  rcases hq with rfl | rfl | rfl | rfl
  · exact mono_zero
  · exact mono_rounded
  · exact mono_decimal_worth
  · exact mono_bounded
def sp_read_decimal : Sem := fun vs g Q => ∃ f way s c e, vs = [.d (fmD f), .d (.str way), .d (decD s c e)] ∧ (FmD f ∧ way ∈ ways5 ∧ (s = 0 ∨ s = 1) ∧ 0 ≤ c ∧ Bd 8900 c ∧ RoomC f c e) ∧ (c = 0 → Q (.d (.tuple [vlD (.num s 0 f.lo), .tuple []])) g) ∧ (0 < c → ∀ d, RndD f way s (dw c e) d → Q (.d d) g)
theorem mono_read_decimal : SemMono sp_read_decimal := fun vs g Q Q' h ⟨f, w, s, c, e, e', a, q1, q2⟩ => ⟨f, w, s, c, e, e', a, fun z => h _ _ (q1 z), fun z d x => h _ _ (q2 z d x)⟩
theorem pure_read_decimal : ∀ vs g Q, sp_read_decimal vs g Q → semF tb_read_decimal 3 b_read_decimal vs g Q := by
  rintro _ g Q ⟨f, way, s, c, e, rfl, ⟨hf, hw, hs, c0, bc, hr⟩, q1, q2⟩
  by_cases z : c = 0
  · subst z
    have q1 := q1 rfl
    walk_at "vp"
    all_goals exact q1
  have q2 := q2 (by omega)
  clear q1
  have r0 : 0 ≤ roomF f := by unfold roomF; have := hf.p2; omega
  obtain ⟨k1, k2, k3⟩ := clip_cases f c e r0
  have dp := dig_pos c0
  unfold RoomC at hr
  generalize hE : clipE f c e = E at k1 k2 k3
  have hr2 : -5510 ≤ E ∧ E ≤ 5510 ∧ (digN c : Int) ≤ 5508 ∧ (0 ≤ E → (digN c : Int) + E ≤ 5509) := by omega
  have fx : Fb 18400 (wv 10 s c E) := by
    have cc := wv_can ten2 s c E
    rw [← wv_ten (s := s)] at cc ⊢
    have bt := fun k : Nat => ten_tight k
    have one : ∀ {k : Nat}, 2 ≤ k → Bd k (1 : Int) := fun h => bd_one' h
    have dl := dig_lt c0
    have bc2 : Bd (10 * (digN c / 3) + 11) c := (bt (digN c)).of_natAbs (by have := powI_pos ten2 (digN c); omega)
    have bcs : Bd (10 * (digN c / 3) + 11) (if s = 1 then -c else c) := by split; exact bc2.neg; exact bc2
    refine ⟨cc.pos, ?_, ?_⟩
    · show Bd 18400 (nrm ((if s = 1 then -c else c) * (powP 10 E).1) (1 * (powP 10 E).2)).1
      refine Bd.nrm1 ?_
      by_cases y : 0 ≤ E
      · have ey : (powP 10 E).1 = (10 : Int) ^ E.toNat := by unfold powP; rw [if_pos y]
        rw [ey]
        have l : ((if s = 1 then -c else c) * (10 : Int) ^ E.toNat).natAbs ≤ ((10 : Int) ^ (digN c + E.toNat)).natAbs := by
          rw [Int.natAbs_mul, Int.pow_add, Int.natAbs_mul]
          refine Nat.mul_le_mul_right _ ?_
          have := powI_pos ten2 (digN c)
          split <;> omega
        exact ((bt (digN c + E.toNat)).of_natAbs l).up (by omega)
      · have ey : (powP 10 E).1 = 1 := by unfold powP; rw [if_neg y]
        rw [ey, Int.mul_one]
        exact bcs.up (by omega)
    · show Bd 18400 (nrm ((if s = 1 then -c else c) * (powP 10 E).1) (1 * (powP 10 E).2)).2
      refine Bd.nrm2 ?_
      rw [Int.one_mul]
      by_cases y : 0 ≤ E
      · have ey : (powP 10 E).2 = 1 := by unfold powP; rw [if_pos y]
        rw [ey]
        exact one (by decide)
      · have ey : (powP 10 E).2 = (10 : Int) ^ (-E).toNat := by unfold powP; rw [if_neg y]
        rw [ey]
        exact (bt _).up (by omega)
  obtain ⟨sx, nx⟩ := sgF_ten ten2 (s := s) (c := c) (e := E) hs (by omega)
  have wx : wo (absP (wv 10 s c E)) = dw c E := by
    rw [absP_wv ten2 c0, wo_wv ten2, show sg 0 = 1 from rfl, Int.one_mul]
    rfl
  have lE : -27000 ≤ E ∧ E ≤ 27000 := by omega
  have zs : decide (c = 0) = false := decide_eq_false z
  walk_at "w"
  refine And.intro (.inl rfl) ?_
  rw [eqv_int, zs]
  refine And.intro (fun z => nomatch z) (fun _ => ?_)
  walk_at "w"
  refine ⟨f, s, c, e, rfl, ⟨hf, c0, bc.up (by decide)⟩, ?_⟩
  rw [hE]
  walk_at "w"
  refine ⟨s, c, E, rfl, ⟨hs, bc, lE.1, lE.2⟩, ?_⟩
  walk_at "w"
  refine ⟨f, way, wv 10 s c E, s, 18400, rfl, ⟨hf, hw, fx, by decide, nx⟩, fun d hd => ?_⟩
  rw [sx, wx] at hd
  obtain ⟨d0, hd0⟩ : ∃ d0, RndD f way s (dw c e) d0 := rnd_exists hf (by omega)
  obtain ⟨tr, lr⟩ := room_ok hf (m := roomF f) (by omega)
  have := rnd_clip hf (m := roomF f) (by omega) tr lr k1 hd0 hd
  rw [this]
  exact q2 d0 hd0
/-! _law_bag -/
def b_law_bag : IS := .seq (.ret (.lst 2 (.cons (.cst (.int 0)) (.cons (.cst (.int 1234567891)) (.cons (.cst (.int 0)) (.cons (.cmpr 0 [1] (.var 1) (.sl 0 (.var 0) (.nil) (.cst (.int 63))) (.nil) (.blt .abs 0 (.cons (.var 1) .nil))) .nil)))))) .skip
def tb_law_bag : Tb := ⟨[], []⟩
theorem tbm_law_bag : tb_law_bag.Mono := Tb.mono_of fun q hq => by
  simp only [tb_law_bag, List.mem_cons, List.not_mem_nil, or_false] at hq
def sp_law_bag : Sem := fun vs g Q => match vs with
  | [.sc xs] => (∃ ns : List Int, xs = ns.map PyData.int) ∧ ∀ bag, BagAt 0 bag → Q (.gm g.length) (g ++ [bag])
  | _ => False
theorem mono_law_bag : SemMono sp_law_bag := by
  unfold sp_law_bag
  intro vs g Q Q' h q
  revert q
  split
  · exact fun q => ⟨q.1, fun b hb => h _ _ (q.2 b hb)⟩
  · exact fun q => q.elim
theorem pure_law_bag : ∀ vs g Q, sp_law_bag vs g Q → semF tb_law_bag 2 b_law_bag vs g Q := by
  intro vs g Q h
  unfold sp_law_bag at h
  split at h
  · rename_i xs
    obtain ⟨⟨ns, rfl⟩, h⟩ := h
    walk_at "vi"
    · rw [cut_map]
      refine loopC_map (fun d => match d with
        | .int i => .int (i.natAbs : Int)
        | d => d) _ [] (fun x hx k' hk => ?_) ?_
      · obtain ⟨i, _, rfl⟩ := List.mem_map.mp hx
        exact hk
      · walk_at "vi"
        refine h _ ⟨0, 1234567891, 0, (cutD ns none (some 63)).map fun i => (i.natAbs : Int), ?_, by unfold Bd; omega, by omega, by omega, ?_⟩
        · simp [List.map_map, Function.comp_def]
        · rw [List.length_map]
          exact cut_le 63 ns
    · rw [cut_map, List.length_map]
      have : (cutD ns none (some 63)).length ≤ 63 := cut_le 63 ns
      omega
  · exact h.elim
/-! _law_take -/
def b_law_take : IS := .seq (.ifs (.cmp .eq (.ixc (.var 0) 0) (.cst (.int 0))) (.seq (.asg (.var 4) (.ixc (.bin .add (.sl 0 (.ixc (.var 0) 3) (.ixc (.var 0) 2) (.nil)) (.lst 0 (.cons (.cst (.int 0)) .nil))) 0)) (.seq (.augS .add (.var 0) (.cst (.int 2)) (.cst (.int 1))) (.seq (.ifs (.cmp .ge (.var 4) (.bin .pow (.cst (.int 10)) (.cst (.int 18)))) (.seq (.setI (.var 0) (.cst (.int 0)) (.var 4)) .skip) (.skip)) (.seq (.asg (.var 5) (.bin .add (.bin .add (.bin .mul (.ixc (.var 0) 1) (.cst (.int 48271))) (.bin .mod (.blt .int 0 (.cons (.var 4) .nil)) (.cst (.int 2147483647)))) (.bin .mul (.cst (.int 7919)) (.ixc (.var 0) 2)))) (.seq (.setI (.var 0) (.cst (.int 1)) (.bin .mod (.blt .int 0 (.cons (.var 5) .nil)) (.cst (.int 2147483647)))) .skip))))) (.skip)) (.seq (.ifs (.cmp .gt (.ixc (.var 0) 0) (.cst (.int 0))) (.seq (.asg (.var 6) (.bin .mod (.blt .int 0 (.cons (.ixc (.var 0) 0) .nil)) (.var 1))) (.seq (.setI (.var 0) (.cst (.int 0)) (.bin .fdiv (.blt .int 0 (.cons (.ixc (.var 0) 0) .nil)) (.var 1))) (.seq (.ret (.var 6)) .skip))) (.skip)) (.seq (.asg (.var 2) (.bin .mod (.blt .int 0 (.cons (.bin .mul (.bin .add (.ixc (.var 0) 1) (.cst (.int 1))) (.cst (.int 39373))) .nil)) (.cst (.int 1000000007)))) (.seq (.asg (.var 3) (.bin .mod (.blt .int 0 (.cons (.bin .mul (.bin .mod (.blt .int 0 (.cons (.bin .mul (.var 2) (.var 2)) .nil)) (.cst (.int 998244353))) (.cst (.int 30011))) .nil)) (.cst (.int 998244353)))) (.seq (.ret (.bin .mod (.blt .int 0 (.cons (.bin .fdiv (.var 3) (.cst (.int 7))) .nil)) (.var 1))) .skip))))
def tb_law_take : Tb := ⟨[], []⟩
theorem tbm_law_take : tb_law_take.Mono := Tb.mono_of fun q hq => by
  simp only [tb_law_take, List.mem_cons, List.not_mem_nil, or_false] at hq
def sp_law_take : Sem := fun vs g Q => match vs, g with
  | [.gm 0, .d (.int m)], xs :: gs => ∃ C, (BagAt C xs ∧ C < 2 ^ 62 ∧ 0 < m ∧ Bd 8000 m) ∧ ∀ v xs', 0 ≤ v → v < m → BagAt (C + 1) xs' → Q (.d (.int v)) (xs' :: gs)
  | _, _ => False
theorem mono_law_take : SemMono sp_law_take := by
  unfold sp_law_take
  intro vs g Q Q' h q
  revert q
  split
  · rintro ⟨C, a, b⟩
    exact ⟨C, a, fun v xs' h0 h1 h2 => h _ _ (b v xs' h0 h1 h2)⟩
  · exact fun q => q.elim
theorem take_cell (cs : List Int) (c : Int) (hc : 0 ≤ c) : ∃ z : Int, (cutD (cs.map PyData.int) (some c) none ++ [PyData.int 0])[0]? = some (PyData.int z) := by
  have : ∀ l : List Int, ∃ z : Int, ((l.map PyData.int) ++ [PyData.int 0])[0]? = some (PyData.int z) := fun l => by
    cases l with
    | nil => exact ⟨0, rfl⟩
    | cons a l => exact ⟨a, rfl⟩
  unfold cutD
  rw [← List.map_drop, ← List.map_take]
  exact this _
theorem pure_law_take : ∀ vs g Q, sp_law_take vs g Q → semF tb_law_take 7 b_law_take vs g Q := by
  intro vs g Q h
  unfold sp_law_take at h
  split at h
  · rename_i m xs gs
    obtain ⟨C, ⟨⟨a, b, c, cs, rfl, hb, hc, hC, hl⟩, hC2, hm, hbm⟩, h⟩ := h
    obtain ⟨z, hz⟩ := take_cell cs c hc
    have hbc : Bd 62 c := by
      unfold Bd
      omega
    have fin : ∀ (x : Int) (a b c : Int), Bd 31 b → 0 ≤ c → c ≤ (C : Int) + 1 → Q (.d (.int (x % m))) ([.int a, .int b, .int c, .list (cs.map PyData.int)] :: gs) := fun x a b c h1 h2 h3 =>
      h _ _ (Int.emod_nonneg _ (by omega)) (Int.emod_lt_of_pos _ hm) ⟨a, b, c, cs, rfl, h1, h2, by omega, hl⟩
    have hmod : ∀ x : Int, Bd 31 (x % 2147483647) := fun x => (Bd.emod (Bd.lit 2147483647) (by decide)).up (by decide)
    have hc1 : Bd 63 (c + 1) := (hbc.add (Bd.lit 1)).up (by decide)
    walk_at "vi"
    · rw [hz]
      walk_at "vi"
      all_goals first | exact fin _ _ _ _ (hmod _) (by omega) (by omega) | exact fin _ _ _ _ hb (by omega) (by omega) | skip
    all_goals first | exact fin _ _ _ _ hb (by omega) (by omega) | skip
    · have := cut_len (cs.map PyData.int) (some c) none
      rw [List.length_map] at this
      show (cutD (cs.map PyData.int) (some c) none).length + 1 ≤ 1000000
      omega
  · exact h.elim
/-! _law_some -/
def b_law_some : IS := .seq (.ret (.ix (.var 1) (.call 0 (.cons (.var 0) (.cons (.blt .len 0 (.cons (.var 1) .nil)) .nil))))) .skip
def tb_law_some : Tb := ⟨[((Str.ofString "_law_take"), 2, sp_law_take)], []⟩
theorem tbm_law_some : tb_law_some.Mono := Tb.mono_of fun q hq => by
  simp only [tb_law_some, List.mem_cons, List.not_mem_nil, or_false] at hq
  subst hq
  exact mono_law_take
def sp_law_some : Sem := fun vs g Q => match vs, g with
  | [.gm 0, .d (.list ys)], xs :: gs => ∃ C, (BagAt C xs ∧ C < 2 ^ 62 ∧ ys ≠ [] ∧ ys.length ≤ 1000000) ∧ ∀ y xs', y ∈ ys → BagAt (C + 1) xs' → Q (.d y) (xs' :: gs)
  | [.gm 0, .d (.tuple ys)], xs :: gs => ∃ C, (BagAt C xs ∧ C < 2 ^ 62 ∧ ys ≠ [] ∧ ys.length ≤ 1000000) ∧ ∀ y xs', y ∈ ys → BagAt (C + 1) xs' → Q (.d y) (xs' :: gs)
  | [.gm 0, .gm (j + 1)], xs :: gs => ∃ C ys, (gs[j]? = some ys ∧ BagAt C xs ∧ C < 2 ^ 62 ∧ ys ≠ [] ∧ ys.length ≤ 1000000) ∧ ∀ y xs', y ∈ ys → BagAt (C + 1) xs' → Q (.d y) (xs' :: gs)
  | _, _ => False
theorem mono_law_some : SemMono sp_law_some := by
  unfold sp_law_some
  intro vs g Q Q' h q
  revert q
  split
  · rintro ⟨C, a, b⟩
    exact ⟨C, a, fun v xs' h0 h1 => h _ _ (b v xs' h0 h1)⟩
  · rintro ⟨C, a, b⟩
    exact ⟨C, a, fun v xs' h0 h1 => h _ _ (b v xs' h0 h1)⟩
  · rintro ⟨C, ys, a, b⟩
    exact ⟨C, ys, a, fun v xs' h0 h1 => h _ _ (b v xs' h0 h1)⟩
  · exact fun q => q.elim
theorem atI_some {ys : List D} {v : Int} (h0 : 0 ≤ v) (h1 : v < ys.length) : ∃ y, L2.atI ys v = some y ∧ y ∈ ys := by
  obtain ⟨n, rfl⟩ : ∃ n : Nat, v = n := ⟨v.toNat, by omega⟩
  have hn : n < ys.length := by omega
  exact ⟨ys[n], L2.atI_nat (List.getElem?_eq_getElem hn), List.getElem_mem hn⟩
theorem pure_law_some : ∀ vs g Q, sp_law_some vs g Q → semF tb_law_some 2 b_law_some vs g Q := by
  intro vs g Q h
  unfold sp_law_some at h
  have len : ∀ ys : List D, ys ≠ [] → ys.length ≤ 1000000 → 0 < (ys.length : Int) ∧ Bd 8000 (ys.length : Int) := fun ys h0 h1 => by
    have : 0 < ys.length := List.length_pos_iff.mpr h0
    refine ⟨by omega, Bd.up (k := 64) (Bd.lit64 _ (by omega)) (by decide)⟩
  split at h
  · rename_i ys xs gs
    obtain ⟨C, ⟨hb, hC, hy, hl⟩, h⟩ := h
    obtain ⟨l1, l2⟩ := len ys hy hl
    walk_at "vi"
    refine ⟨C, ⟨hb, hC, l1, l2⟩, fun v xs' h0 h1 hb' => ?_⟩
    walk_at "vi"
    obtain ⟨y, e, hm⟩ := atI_some h0 h1
    rw [e]
    exact h y xs' hm hb'
  · rename_i ys xs gs
    obtain ⟨C, ⟨hb, hC, hy, hl⟩, h⟩ := h
    obtain ⟨l1, l2⟩ := len ys hy hl
    walk_at "vi"
    refine ⟨C, ⟨hb, hC, l1, l2⟩, fun v xs' h0 h1 hb' => ?_⟩
    walk_at "vi"
    obtain ⟨y, e, hm⟩ := atI_some h0 h1
    rw [e]
    exact h y xs' hm hb'
  · rename_i j xs gs
    obtain ⟨C, ys, ⟨hj, hb, hC, hy, hl⟩, h⟩ := h
    obtain ⟨l1, l2⟩ := len ys hy hl
    have hj' : ({ g := xs :: gs, l := [] } : Sto).g[j.succ]? = some ys := hj
    walk_at "w"
    rw [hj']
    walk_at "w"
    refine ⟨C, ⟨hb, hC, l1, l2⟩, fun v xs' h0 h1 hb' => ?_⟩
    have hj' : ({ g := xs' :: gs, l := [] } : Sto).g[j.succ]? = some ys := hj
    walk_at "w"
    rw [hj']
    walk_at "w"
    obtain ⟨y, e, hm⟩ := atI_some h0 h1
    rw [e]
    exact h y xs' hm hb'
  · exact h.elim
/-! _law_format -/
def b_law_format : IS := .seq (.asg (.var 1) (.lst 0 (.cons (.tup (.cons (.cst (.int 2)) (.cons (.cst (.int 3)) (.cons (.neg (.cst (.int 2))) (.cons (.cst (.int 1)) .nil))))) (.cons (.tup (.cons (.cst (.int 10)) (.cons (.cst (.int 2)) (.cons (.neg (.cst (.int 2))) (.cons (.cst (.int 0)) .nil))))) (.cons (.tup (.cons (.cst (.int 4)) (.cons (.cst (.int 3)) (.cons (.neg (.cst (.int 3))) (.cons (.cst (.int 3)) .nil))))) (.cons (.tup (.cons (.cst (.int 2)) (.cons (.cst (.int 2)) (.cons (.cst (.int 0)) (.cons (.cst (.int 0)) .nil))))) (.cons (.tup (.cons (.cst (.int 6)) (.cons (.cst (.int 4)) (.cons (.neg (.cst (.int 10))) (.cons (.cst (.int 8)) .nil))))) (.cons (.tup (.cons (.cst (.int 36)) (.cons (.cst (.int 2)) (.cons (.neg (.cst (.int 3))) (.cons (.cst (.int 2)) .nil))))) (.cons (.tup (.cons (.cst (.int 2)) (.cons (.cst (.int 5)) (.cons (.neg (.cst (.int 9))) (.cons (.cst (.int 9)) .nil))))) .nil))))))))) (.seq (.asg (.var 2) (.lst 0 (.cons (.tup (.cons (.cst (.int 2)) (.cons (.cst (.int 11)) (.cons (.neg (.cst (.int 24))) (.cons (.cst (.int 5)) .nil))))) (.cons (.tup (.cons (.cst (.int 2)) (.cons (.cst (.int 24)) (.cons (.neg (.cst (.int 149))) (.cons (.cst (.int 104)) .nil))))) (.cons (.tup (.cons (.cst (.int 2)) (.cons (.cst (.int 53)) (.cons (.neg (.cst (.int 1074))) (.cons (.cst (.int 971)) .nil))))) (.cons (.tup (.cons (.cst (.int 10)) (.cons (.cst (.int 7)) (.cons (.neg (.cst (.int 101))) (.cons (.cst (.int 90)) .nil))))) (.cons (.tup (.cons (.cst (.int 16)) (.cons (.cst (.int 6)) (.cons (.neg (.cst (.int 70))) (.cons (.cst (.int 57)) .nil))))) (.cons (.tup (.cons (.cst (.int 10)) (.cons (.cst (.int 16)) (.cons (.neg (.cst (.int 398))) (.cons (.cst (.int 369)) .nil))))) .nil)))))))) (.seq (.ifs (.cmp .gt (.call 0 (.cons (.var 0) (.cons (.cst (.int 4)) .nil))) (.cst (.int 0))) (.seq (.ret (.call 1 (.cons (.var 0) (.cons (.var 1) .nil)))) .skip) (.skip)) (.seq (.ret (.call 1 (.cons (.var 0) (.cons (.bin .add (.var 2) (.lst 0 (.cons (.tup (.cons (.cst (.int 2)) (.cons (.cst (.int 64)) (.cons (.cst (.int 30)) (.cons (.cst (.int 90)) .nil))))) (.cons (.tup (.cons (.cst (.int 10)) (.cons (.cst (.int 40)) (.cons (.neg (.cst (.int 60))) (.cons (.neg (.cst (.int 50))) .nil))))) (.cons (.tup (.cons (.cst (.int 12)) (.cons (.cst (.int 9)) (.cons (.neg (.cst (.int 1200))) (.cons (.neg (.cst (.int 1190))) .nil))))) .nil))))) .nil)))) .skip)))
def tb_law_format : Tb := ⟨[((Str.ofString "_law_take"), 2, sp_law_take), ((Str.ofString "_law_some"), 2, sp_law_some)], []⟩
theorem tbm_law_format : tb_law_format.Mono := Tb.mono_of fun q hq => by
  simp only [tb_law_format, List.mem_cons, List.not_mem_nil, or_false] at hq
  rcases hq with rfl | rfl
  · exact mono_law_take
  · exact mono_law_some
def sp_law_format : Sem := fun vs g Q => ∃ xs gs, vs = [.gm 0] ∧ g = xs :: gs ∧ ∃ C, (BagAt C xs ∧ C < 2 ^ 60) ∧ ∀ f xs', f ∈ dfS ++ dfW → BagAt (C + 2) xs' → Q (.d (fmD f)) (xs' :: gs)
theorem mono_law_format : SemMono sp_law_format := fun vs g Q Q' h ⟨xs, gs, e, e', C, a, q⟩ => ⟨xs, gs, e, e', C, a, fun w x h1 h2 => h _ _ (q w x h1 h2)⟩
theorem pure_law_format : ∀ vs g Q, sp_law_format vs g Q → semF tb_law_format 3 b_law_format vs g Q := by
  rintro _ _ Q ⟨xs, gs, rfl, rfl, C, ⟨hb, hC⟩, h⟩
  walk_at "w"
  refine ⟨C, ⟨hb, by omega, by decide, (Bd.lit64 4 (by decide)).up (by decide)⟩, fun v x1 v0 v1 hb1 => ?_⟩
  walk_at "w"
  refine And.intro (fun _ => ?_) (fun _ => ?_)
  · walk_at "w"
    refine ⟨C + 1, ⟨hb1, by omega, by simp, by show (7 : Nat) ≤ 1000000; decide⟩, fun y x2 hy hb2 => ?_⟩
    obtain ⟨f, rfl, hf⟩ := mem_fm (l := dfS) hy
    walk_at "w"
    exact h f x2 (List.mem_append_left _ hf) hb2
  · walk_at "w"
    refine And.intro (by show (6 : Nat) + 3 ≤ 1000000; decide) ?_
    walk_at "w"
    refine ⟨C + 1, ⟨hb1, by omega, by simp, by show (9 : Nat) ≤ 1000000; decide⟩, fun y x2 hy hb2 => ?_⟩
    obtain ⟨f, rfl, hf⟩ := mem_fm (l := dfW) hy
    walk_at "w"
    exact h f x2 (List.mem_append_right _ hf) hb2
/-! _law_to -/
def b_law_to : IS := .seq (.asg (.var 2) (.cst (.int 1))) (.seq (.whl (.cmp .gt (.var 1) (.cst (.int 0))) (.seq (.ifs (.cmp .eq (.bin .mod (.blt .int 0 (.cons (.var 1) .nil)) (.cst (.int 2))) (.cst (.int 1))) (.seq (.asg (.var 2) (.bin .mul (.var 2) (.var 0))) .skip) (.skip)) (.seq (.asg (.tup (.cons (.var 0) (.cons (.var 1) .nil))) (.tup (.cons (.bin .mul (.var 0) (.var 0)) (.cons (.bin .fdiv (.blt .int 0 (.cons (.var 1) .nil)) (.cst (.int 2))) .nil)))) .skip))) (.seq (.ret (.var 2)) .skip))
def tb_law_to : Tb := ⟨[], []⟩
theorem tbm_law_to : tb_law_to.Mono := Tb.mono_of fun q hq => by
  simp only [tb_law_to, List.mem_cons, List.not_mem_nil, or_false] at hq
def sp_law_to : Sem := fun vs g Q => match vs with
  | [.d (.int b), .d (.int e)] => (∃ k, Bd k b ∧ 0 ≤ e ∧ k * (4 * e.toNat + 4) ≤ 900000) ∧ Q (.d (.int (b ^ e.toNat))) g
  | _ => False
theorem mono_law_to : SemMono sp_law_to := by
  unfold sp_law_to
  walk_at "mono"
theorem pure_law_to : ∀ vs g Q, sp_law_to vs g Q → semF tb_law_to 3 b_law_to vs g Q := by
  intro vs g Q h
  unfold sp_law_to at h
  split at h
  · rename_i b e
    obtain ⟨⟨k, hk, he, hb⟩, h⟩ := h
    walk_at "vi"
    refine ⟨fun m env st => ∃ (p r e' : Nat), env = [some (.d (.int (b ^ p))), some (.d (.int e')), some (.d (.int (b ^ r)))] ∧ st = ⟨g, []⟩ ∧ e' = m ∧ r + p * e' = e.toNat ∧ 1 ≤ p, ⟨_, 1, 0, e.toNat, ?_, rfl, rfl, by omega, by omega⟩, ?_⟩
    · simp [put, Int.toNat_of_nonneg he, Int.pow_succ]
    rintro m _ _ ⟨p, r, e', rfl, rfl, rfl, hs, hp⟩
    have ok : 0 < e' → ∀ x y, x ≤ e.toNat → y ≤ e.toNat → MulOk (b ^ x) (b ^ y) := fun h0 x y hx hy => by
      have h1 := Nat.mul_le_mul_left k hx
      have h2 := Nat.mul_le_mul_left k hy
      rw [Nat.mul_add, ← Nat.mul_assoc, Nat.mul_comm k 4, Nat.mul_assoc] at hb
      exact (hk.pow x).mulOk (hk.pow y) (by omega)
    have hpe : 0 < e' → p ≤ p * e' := fun h0 => Nat.le_mul_of_pos_right p h0
    walk_at "vi"
    · rename_i h0 h1
      obtain ⟨q, rfl⟩ : ∃ q, e' = 2 * q + 1 := ⟨e' / 2, by omega⟩
      refine ⟨q, by omega, 2 * p, r + p, q, ?_, rfl, rfl, by rw [← hs]; grind, by omega⟩
      have e1 : (2 * q + 1 : Nat) / 2 = q := by omega
      simp only [put]
      rw [Int.fdiv_eq_ediv_of_nonneg _ (by decide), show ((2 * q + 1 : Nat) : Int) / 2 = (q : Int) by omega, ← Int.pow_add, ← Int.pow_add, Nat.two_mul]
    · exact ok (by omega) _ _ (by have := hpe (by omega); omega) (by have := hpe (by omega); omega)
    · exact ok (by omega) _ _ (by omega) (by have := hpe (by omega); omega)
    · rename_i h0 h1
      obtain ⟨q, rfl⟩ : ∃ q, e' = 2 * q := ⟨e' / 2, by omega⟩
      refine ⟨q, by omega, 2 * p, r, q, ?_, rfl, rfl, by rw [← hs]; grind, by omega⟩
      simp only [put]
      rw [Int.fdiv_eq_ediv_of_nonneg _ (by decide), show ((2 * q : Nat) : Int) / 2 = (q : Int) by omega, ← Int.pow_add, Nat.two_mul]
    · exact ok (by omega) _ _ (by have := hpe (by omega); omega) (by have := hpe (by omega); omega)
    · rename_i h0
      have e0 : e' = 0 := by omega
      subst e0
      have hr : r = e.toNat := by omega
      rw [hr]
      exact h
  · exact h.elim
/-! _law_power -/
def b_law_power : IS := .seq (.ret (.ife (.cmp .ge (.var 1) (.cst (.int 0))) (.tup (.cons (.call 0 (.cons (.var 0) (.cons (.var 1) .nil))) (.cons (.cst (.int 1)) .nil))) (.tup (.cons (.cst (.int 1)) (.cons (.call 0 (.cons (.var 0) (.cons (.bin .sub (.cst (.int 0)) (.var 1)) .nil))) .nil))))) .skip
def tb_law_power : Tb := ⟨[((Str.ofString "_law_to"), 2, sp_law_to)], []⟩
theorem tbm_law_power : tb_law_power.Mono := Tb.mono_of fun q hq => by
  simp only [tb_law_power, List.mem_cons, List.not_mem_nil, or_false] at hq
  subst hq
  exact mono_law_to
def sp_law_power : Sem := fun vs g Q => ∃ b e, vs = [.d (.int b), .d (.int e)] ∧ (2 ≤ b ∧ b ≤ 36 ∧ -30000 ≤ e ∧ e ≤ 30000) ∧ Q (.d (dF (powP b e))) g
theorem mono_law_power : SemMono sp_law_power := fun vs g Q Q' h ⟨b, e, e', a, q⟩ => ⟨b, e, e', a, h _ _ q⟩
theorem pure_law_power : ∀ vs g Q, sp_law_power vs g Q → semF tb_law_power 2 b_law_power vs g Q := by
  rintro _ g Q ⟨b, e, rfl, ⟨h1, h2, h3, h4⟩, h⟩
  have bb : Bd 6 b := by unfold Bd; omega
  unfold powP at h
  have w1 : ∀ e : Int, 0 ≤ e → e ≤ 30000 → ∃ k, Bd k b ∧ 0 ≤ e ∧ k * (4 * e.toNat + 4) ≤ 900000 := fun e z y => ⟨6, bb, z, by omega⟩
  walk_at "vi"
  · rename_i z
    rw [if_pos (by omega)] at h
    exact h
  · exact w1 e (by omega) h4
  · rename_i z
    rw [if_neg (by omega), show -e = 0 - e by omega] at h
    exact h
  · exact w1 _ (by omega) (by omega)
/-! _law_size -/
def b_law_size : IS := .seq (.asg (.tup (.cons (.var 3) (.cons (.var 4) .nil))) (.call 0 (.cons (.ixc (.var 0) 0) (.cons (.var 2) .nil)))) (.seq (.ret (.tup (.cons (.bin .mul (.var 1) (.var 3)) (.cons (.var 4) .nil)))) .skip)
def tb_law_size : Tb := ⟨[((Str.ofString "_law_power"), 2, sp_law_power)], []⟩
theorem tbm_law_size : tb_law_size.Mono := Tb.mono_of fun q hq => by
  simp only [tb_law_size, List.mem_cons, List.not_mem_nil, or_false] at hq
  subst hq
  exact mono_law_power
def sp_law_size : Sem := fun vs g Q => ∃ f c e, vs = [.d (fmD f), .d (.int c), .d (.int e)] ∧ (2 ≤ f.b ∧ f.b ≤ 36 ∧ -30000 ≤ e ∧ e ≤ 30000 ∧ MulOk c (powP f.b e).1) ∧ Q (.d (dF (lsz f c e))) g
theorem mono_law_size : SemMono sp_law_size := fun vs g Q Q' h ⟨f, c, e, e', a, q⟩ => ⟨f, c, e, e', a, h _ _ q⟩
theorem pure_law_size : ∀ vs g Q, sp_law_size vs g Q → semF tb_law_size 5 b_law_size vs g Q := by
  rintro _ g Q ⟨⟨b, p, lo, hi⟩, c, e, rfl, ⟨h1, h2, h3, h4, h5⟩, h⟩
  have h5 : MulOk c (powP b e).1 := h5
  walk_at "w"
  refine ⟨b, e, rfl, ⟨h1, h2, h3, h4⟩, ?_⟩
  have h : Q (.d (.tuple [.int (c * (powP b e).1), .int (powP b e).2])) g := h
  generalize powP b e = P at h h5 ⊢
  obtain ⟨u, v⟩ := P
  walk_at "vi"
  all_goals first | exact h | exact h5 | trace_state
/-! _law_c -/
def b_law_c : IS := .seq (.asg (.tup (.cons (.var 4) (.cons (.var 5) (.cons (.var 6) (.cons (.var 7) .nil))))) (.var 1)) (.seq (.asg (.tup (.cons (.var 8) (.cons (.var 9) .nil))) (.tup (.cons (.call 0 (.cons (.var 4) (.cons (.bin .sub (.var 5) (.cst (.int 1))) .nil))) (.cons (.bin .sub (.call 0 (.cons (.var 4) (.cons (.var 5) .nil))) (.cst (.int 1))) .nil)))) (.seq (.asg (.var 3) (.lst 0 (.cons (.var 8) (.cons (.var 9) (.cons (.bin .add (.var 8) (.cst (.int 1))) (.cons (.bin .sub (.var 9) (.cst (.int 1))) (.cons (.bin .add (.var 8) (.call 1 (.cons (.var 0) (.cons (.bin .add (.bin .sub (.var 9) (.var 8)) (.cst (.int 1))) .nil)))) (.cons (.bin .add (.var 8) (.bin .fdiv (.bin .mul (.call 1 (.cons (.var 0) (.cons (.cst (.int 9)) .nil))) (.bin .sub (.var 9) (.var 8))) (.cst (.int 9)))) .nil)))))))) (.seq (.ifs (.cmp .eq (.var 2) (.var 6)) (.seq (.asg (.var 3) (.bin .add (.var 3) (.lst 0 (.cons (.cst (.int 1)) (.cons (.cst (.int 2)) (.cons (.bin .sub (.var 8) (.cst (.int 1))) (.cons (.bin .add (.cst (.int 1)) (.call 1 (.cons (.var 0) (.cons (.var 8) .nil)))) .nil))))))) .skip) (.skip)) (.seq (.ret (.blt .max2 0 (.cons (.cst (.int 1)) (.cons (.blt .min2 0 (.cons (.var 9) (.cons (.call 2 (.cons (.var 0) (.cons (.var 3) .nil))) .nil))) .nil)))) .skip))))
def tb_law_c : Tb := ⟨[((Str.ofString "_law_to"), 2, sp_law_to), ((Str.ofString "_law_take"), 2, sp_law_take), ((Str.ofString "_law_some"), 2, sp_law_some)], []⟩
theorem tbm_law_c : tb_law_c.Mono := Tb.mono_of fun q hq => by
  simp only [tb_law_c, List.mem_cons, List.not_mem_nil, or_false] at hq
  rcases hq with rfl | rfl | rfl
  · exact mono_law_to
  · exact mono_law_take
  · exact mono_law_some
def sp_law_c : Sem := fun vs g Q => ∃ f e xs gs, vs = [.gm 0, .d (fmD f), .d (.int e)] ∧ g = xs :: gs ∧ ∃ C, (BagAt C xs ∧ C < 2 ^ 59 ∧ FmD f) ∧ ∀ c xs', 1 ≤ c → c < f.T → (e = f.lo ∨ f.F ≤ c) → BagAt (C + 4) xs' → Q (.d (.int c)) (xs' :: gs)
theorem mono_law_c : SemMono sp_law_c := fun vs g Q Q' h ⟨f, e, xs, gs, e1, e2, C, a, q⟩ => ⟨f, e, xs, gs, e1, e2, C, a, fun c x h1 h2 h3 h4 => h _ _ (q c x h1 h2 h3 h4)⟩
theorem pure_law_c : ∀ vs g Q, sp_law_c vs g Q → semF tb_law_c 10 b_law_c vs g Q := by
  rintro _ _ Q ⟨⟨b, p, lo, hi⟩, e, xs, gs, rfl, rfl, C, ⟨hb, hC, hf⟩, h⟩
  obtain ⟨F2, TF, FT, bF⟩ := hf.F
  have bT : Bd 640 (Fm.T ⟨b, p, lo, hi⟩) := hf.bp
  have p2 : 2 ≤ p := hf.p2
  have p3 : p ≤ 120 := hf.p120
  have w1 := hf.pw (e := p) (by omega) (by omega)
  have w2 := hf.pw (e := p - 1) (by omega) (by omega)
  have T2 : 2 * Fm.F ⟨b, p, lo, hi⟩ ≤ Fm.T ⟨b, p, lo, hi⟩ := by
    rw [TF]
    exact Int.mul_le_mul_of_nonneg_right hf.b2 (by omega)
  have tail : ∀ (F T : Int), F = Fm.F ⟨b, p, lo, hi⟩ → T = Fm.T ⟨b, p, lo, hi⟩ → 2 ≤ F ∧ 2 * F ≤ T ∧ F < T ∧ Bd 640 F ∧ Bd 640 T ∧ (∀ c xs', 1 ≤ c → c < T → (e = lo ∨ F ≤ c) → BagAt (C + 4) xs' → Q (.d (.int c)) (xs' :: gs)) := fun F T h1 h2 => by
    subst h1 h2
    exact ⟨F2, T2, FT, bF, bT, h⟩
  refine seq_cut tbm_law_c (fun env st => env = [some (.gm 0), some (.d (fmD ⟨b, p, lo, hi⟩)), some (.d (.int e)), none, some (.d (.int b)), some (.d (.int p)), some (.d (.int lo)), some (.d (.int hi)), none, none] ∧ st = ⟨xs :: gs, []⟩) ?_ ?_
  · walk_at "w"
    exact ⟨rfl, rfl, rfl⟩
  rintro _ _ ⟨rfl, rfl⟩
  refine seq_cut tbm_law_c (fun env st => ∃ F T, (F = Fm.F ⟨b, p, lo, hi⟩ ∧ T = Fm.T ⟨b, p, lo, hi⟩) ∧ env = [some (.gm 0), some (.d (fmD ⟨b, p, lo, hi⟩)), some (.d (.int e)), none, some (.d (.int b)), some (.d (.int p)), some (.d (.int lo)), some (.d (.int hi)), some (.d (.int F)), some (.d (.int (T - 1)))] ∧ st = ⟨xs :: gs, []⟩) ?_ ?_
  · walk_at "w"
    refine And.intro w2 ?_
    walk_at "w"
    refine And.intro w1 ?_
    walk_at "w"
    exact ⟨rfl, _, _, ⟨rfl, rfl⟩, rfl, rfl⟩
  rintro _ _ ⟨F, T, ⟨hF, hT⟩, rfl, rfl⟩
  obtain ⟨F2, T2, FT, bF, bT, h⟩ := tail F T hF hT
  clear tail w1 w2 hF hT TF
  have bd1 : Bd 8000 (T - 1 - F + 1) := (((bT.sub (Bd.lit64 1 (by decide))).sub bF).add (Bd.lit64 1 (by decide))).up (by decide)
  have bd2 : Bd 700 (T - 1 - F) := ((bT.sub (Bd.lit64 1 (by decide))).sub bF).up (by decide)
  refine seq_cut tbm_law_c (fun env st => ∃ (m : Nat) (ys : List Int) (x : List D), (m ≤ 2 ∧ ys ≠ [] ∧ ys.length ≤ 6 ∧ ∀ y ∈ ys, F ≤ y) ∧ env = [some (.gm 0), some (.d (fmD ⟨b, p, lo, hi⟩)), some (.d (.int e)), some (.d (.list (ys.map PyData.int))), some (.d (.int b)), some (.d (.int p)), some (.d (.int lo)), some (.d (.int hi)), some (.d (.int F)), some (.d (.int (T - 1)))] ∧ st = ⟨x :: gs, []⟩ ∧ BagAt (C + m) x) ?_ ?_
  · walk_at "w"
    refine ⟨C, ⟨hb, by omega, by omega, bd1⟩, fun v x1 v0 v1 hb1 => ?_⟩
    walk_at "w"
    refine ⟨C + 1, ⟨hb1, by omega, by decide, (Bd.lit64 9 (by decide)).up (by decide)⟩, fun u x2 u0 u1 hb2 => ?_⟩
    have bu : Bd 64 u := Bd.lit64 u (by omega)
    walk_at "w"
    refine And.intro (bu.mulOk bd2 (by decide)) ?_
    walk_at "w"
    refine And.intro ⟨by decide, by decide +kernel⟩ ?_
    have nn : 0 ≤ (u * (T - 1 - F)).fdiv 9 := by
      rw [Int.fdiv_eq_ediv_of_nonneg _ (by decide)]
      exact Int.ediv_nonneg (Int.mul_nonneg u0 (by omega)) (by decide)
    refine ⟨2, [F, T - 1, F + 1, T - 1 - 1, F + v, F + (u * (T - 1 - F)).fdiv 9], x2, ⟨Nat.le_refl _, by simp, by simp, fun y hy => ?_⟩, rfl, rfl, hb2⟩
    simp only [List.mem_cons, List.not_mem_nil, or_false] at hy
    rcases hy with rfl | rfl | rfl | rfl | rfl | rfl <;> omega
  rintro _ _ ⟨m, ys, x, ⟨m2, yn, yl, yF⟩, rfl, rfl, hb⟩
  refine seq_cut tbm_law_c (fun env st => ∃ (m : Nat) (ys : List Int) (x : List D), (m ≤ 3 ∧ ys ≠ [] ∧ ys.length ≤ 10 ∧ ∀ y ∈ ys, e = lo ∨ F ≤ y) ∧ env = [some (.gm 0), some (.d (fmD ⟨b, p, lo, hi⟩)), some (.d (.int e)), some (.d (.list (ys.map PyData.int))), some (.d (.int b)), some (.d (.int p)), some (.d (.int lo)), some (.d (.int hi)), some (.d (.int F)), some (.d (.int (T - 1)))] ∧ st = ⟨x :: gs, []⟩ ∧ BagAt (C + m) x) ?_ ?_
  · walk_at "w"
    refine And.intro (.inl rfl) ?_
    rw [eqv_int]
    refine And.intro (fun z => ?_) (fun z => ?_)
    · have z := of_decide_eq_true z
      walk_at "w"
      refine ⟨C + m, ⟨hb, by omega, by omega, bF.up (by decide)⟩, fun v x1 v0 v1 hb1 => ?_⟩
      walk_at "w"
      refine And.intro (by rw [List.length_map]; show ys.length + 4 ≤ 1000000; omega) ?_
      exact ⟨m + 1, ys ++ [1, 2, F - 1, 1 + v], x1, ⟨by omega, by simp, by simp; omega, fun y _ => .inl z⟩, by rw [List.map_append]; rfl, rfl, hb1⟩
    · have z := of_decide_eq_false z
      exact ⟨m, ys, x, ⟨by omega, yn, by omega, fun y hy => .inr (yF y hy)⟩, rfl, rfl, hb⟩
  rintro _ _ ⟨m, ys, x, ⟨m2, yn, yl, yF⟩, rfl, rfl, hb⟩
  walk_at "w"
  refine ⟨C + m, ⟨hb, by omega, by simpa using yn, by rw [List.length_map]; omega⟩, fun y x1 hy hb1 => ?_⟩
  obtain ⟨c, hc, rfl⟩ := List.mem_map.mp hy
  walk_at "w"
  refine h _ x1 (by omega) (by omega) ?_ (hb1.up (by omega))
  rcases yF c hc with z | z
  · exact .inl z
  · exact .inr (by omega)
/-! _law_number -/
def b_law_number : IS := .seq (.asg (.tup (.cons (.var 4) (.cons (.var 5) (.cons (.var 6) (.cons (.var 7) .nil))))) (.var 1)) (.seq (.asg (.var 2) (.blt .max2 0 (.cons (.var 6) (.cons (.blt .min2 0 (.cons (.var 7) (.cons (.bin .add (.bin .sub (.cst (.int 0)) (.var 5)) (.call 0 (.cons (.var 0) (.cons (.cst (.int 5)) .nil)))) .nil))) .nil)))) (.seq (.asg (.var 3) (.call 1 (.cons (.var 0) (.cons (.lst 0 (.cons (.var 6) (.cons (.var 7) (.cons (.bin .add (.var 6) (.call 0 (.cons (.var 0) (.cons (.bin .add (.bin .sub (.var 7) (.var 6)) (.cst (.int 1))) .nil)))) (.cons (.var 2) (.cons (.var 2) .nil)))))) .nil)))) (.seq (.ret (.tup (.cons (.cst (.str (Str.ofString "num"))) (.cons (.call 0 (.cons (.var 0) (.cons (.cst (.int 2)) .nil))) (.cons (.call 2 (.cons (.var 0) (.cons (.var 1) (.cons (.var 3) .nil)))) (.cons (.var 3) .nil)))))) .skip)))
def tb_law_number : Tb := ⟨[((Str.ofString "_law_take"), 2, sp_law_take), ((Str.ofString "_law_some"), 2, sp_law_some), ((Str.ofString "_law_c"), 3, sp_law_c)], []⟩
theorem tbm_law_number : tb_law_number.Mono := Tb.mono_of fun q hq => by
  simp only [tb_law_number, List.mem_cons, List.not_mem_nil, or_false] at hq
  rcases hq with rfl | rfl | rfl
  · exact mono_law_take
  · exact mono_law_some
  · exact mono_law_c
def sp_law_number : Sem := fun vs g Q => ∃ f xs gs, vs = [.gm 0, .d (fmD f)] ∧ g = xs :: gs ∧ ∃ C, (BagAt C xs ∧ C < 2 ^ 58 ∧ FmD f) ∧ ∀ s c e xs', NumOk f s c e → 1 ≤ c → BagAt (C + 8) xs' → Q (.d (vlD (.num s c e))) (xs' :: gs)
theorem mono_law_number : SemMono sp_law_number := fun vs g Q Q' h ⟨f, xs, gs, e1, e2, C, a, q⟩ => ⟨f, xs, gs, e1, e2, C, a, fun s c e x h1 h2 h3 => h _ _ (q s c e x h1 h2 h3)⟩
theorem pure_law_number : ∀ vs g Q, sp_law_number vs g Q → semF tb_law_number 8 b_law_number vs g Q := by
  rintro _ _ Q ⟨⟨b, p, lo, hi⟩, xs, gs, rfl, rfl, C, ⟨hb, hC, hf⟩, h⟩
  have lh : lo ≤ hi := hf.lh
  have l1 : -1300 ≤ lo := hf.l
  have h1 : hi ≤ 1300 := hf.h
  have lo' : Fm.lo ⟨b, p, lo, hi⟩ = lo := rfl
  have hi' : Fm.hi ⟨b, p, lo, hi⟩ = hi := rfl
  have hd : Bd 8000 (hi - lo + 1) := Bd.up (k := 64) (Bd.lit64 _ (by omega)) (by decide)
  walk_at "w"
  refine And.intro rfl ?_
  walk_at "w"
  refine ⟨C, ⟨hb, by omega, by decide, (Bd.lit64 5 (by decide)).up (by decide)⟩, fun v x1 v0 v1 hb1 => ?_⟩
  walk_at "w"
  refine ⟨C + 1, ⟨hb1, by omega, by omega, hd⟩, fun u x2 u0 u1 hb2 => ?_⟩
  walk_at "w"
  refine ⟨C + 2, ⟨hb2, by omega, by simp, by show (5 : Nat) ≤ 1000000; decide⟩, fun y x3 hy hb3 => ?_⟩
  obtain ⟨e, rfl, e1, e2⟩ : ∃ e : Int, y = .int e ∧ lo ≤ e ∧ e ≤ hi := by
    simp only [List.mem_cons, List.not_mem_nil, or_false] at hy
    rcases hy with rfl | rfl | rfl | rfl | rfl <;> exact ⟨_, rfl, by omega, by omega⟩
  clear hy
  walk_at "w"
  refine ⟨C + 3, ⟨hb3, by omega, by decide, (Bd.lit64 2 (by decide)).up (by decide)⟩, fun s x4 s0 s1 hb4 => ?_⟩
  walk_at "w"
  refine ⟨⟨b, p, lo, hi⟩, e, x4, gs, rfl, rfl, C + 4, ⟨hb4, by omega, hf⟩, fun c x5 c1 c2 c3 hb5 => ?_⟩
  walk_at "w"
  exact h s c e x5 ⟨by omega, e1, e2, by omega, c2, c3⟩ c1 hb5
/-! _law_next -/
def b_law_next : IS := .seq (.asg (.tup (.cons (.var 3) (.cons (.var 4) .nil))) (.sl 0 (.var 0) (.nil) (.cst (.int 2)))) (.seq (.ret (.ife (.cmp .lt (.bin .add (.var 1) (.cst (.int 1))) (.call 0 (.cons (.var 3) (.cons (.var 4) .nil)))) (.tup (.cons (.bin .add (.var 1) (.cst (.int 1))) (.cons (.var 2) .nil))) (.tup (.cons (.call 0 (.cons (.var 3) (.cons (.bin .sub (.var 4) (.cst (.int 1))) .nil))) (.cons (.bin .add (.var 2) (.cst (.int 1))) .nil))))) .skip)
def tb_law_next : Tb := ⟨[((Str.ofString "_law_to"), 2, sp_law_to)], []⟩
theorem tbm_law_next : tb_law_next.Mono := Tb.mono_of fun q hq => by
  simp only [tb_law_next, List.mem_cons, List.not_mem_nil, or_false] at hq
  subst hq
  exact mono_law_to
def sp_law_next : Sem := fun vs g Q => ∃ f c e, vs = [.d (fmD f), .d (.int c), .d (.int e)] ∧ (FmD f ∧ c < f.T) ∧ Q (.d (.tuple [.int (uN f c e).1, .int (uN f c e).2])) g
theorem mono_law_next : SemMono sp_law_next := fun vs g Q Q' h ⟨f, c, e, e', a, q⟩ => ⟨f, c, e, e', a, h _ _ q⟩
theorem pure_law_next : ∀ vs g Q, sp_law_next vs g Q → semF tb_law_next 5 b_law_next vs g Q := by
  rintro _ g Q ⟨⟨b, p, lo, hi⟩, c, e, rfl, ⟨hf, hc⟩, h⟩
  have p2 : 2 ≤ p := hf.p2
  have p3 : p ≤ 120 := hf.p120
  have wp := hf.pw (e := p) (by omega) (by omega)
  have wq := hf.pw (e := p - 1) (by omega) (by omega)
  have hc : c < b ^ p.toNat := hc
  have h : Q (.d (.tuple [.int (if c + 1 = b ^ p.toNat then (b ^ (p - 1).toNat, e + 1) else (c + 1, e)).1, .int (if c + 1 = b ^ p.toNat then (b ^ (p - 1).toNat, e + 1) else (c + 1, e)).2])) g := h
  walk_at "w"
  refine And.intro rfl ?_
  walk_at "w"
  refine And.intro wp ?_
  walk_at "w"
  refine And.intro (fun z => ?_) (fun z => ?_)
  · have z := of_decide_eq_true z
    rw [if_neg (show ¬ c + 1 = b ^ p.toNat from fun y => absurd z (by rw [y]; exact Int.lt_irrefl _))] at h
    walk_at "w"
    exact h
  · have z := of_decide_eq_false z
    rw [if_pos (show c + 1 = b ^ p.toNat from Int.le_antisymm (Int.add_one_le_of_lt hc) (Int.not_lt.mp z))] at h
    walk_at "w"
    refine And.intro wq ?_
    walk_at "w"
    exact h
/-! _law_compared -/
def b_law_compared : IS := .seq (.ret (.bin .sub (.bin .mul (.ixc (.var 0) 0) (.ixc (.var 1) 1)) (.bin .mul (.ixc (.var 1) 0) (.ixc (.var 0) 1)))) .skip
def tb_law_compared : Tb := ⟨[], []⟩
theorem tbm_law_compared : tb_law_compared.Mono := Tb.mono_of fun q hq => by
  simp only [tb_law_compared, List.mem_cons, List.not_mem_nil, or_false] at hq
def sp_law_compared : Sem := fun vs g Q => ∃ a b c d : Int, vs = [.d (.tuple [.int a, .int b]), .d (.tuple [.int c, .int d])] ∧ (MulOk a d ∧ MulOk c b) ∧ Q (.d (.int (a * d - c * b))) g
theorem mono_law_compared : SemMono sp_law_compared := fun vs g Q Q' h ⟨a, b, c, d, e, x, q⟩ => ⟨a, b, c, d, e, x, h _ _ q⟩
theorem pure_law_compared : ∀ vs g Q, sp_law_compared vs g Q → semF tb_law_compared 2 b_law_compared vs g Q := by
  rintro _ g Q ⟨a, b, c, d, rfl, ⟨m1, m2⟩, h⟩
  walk_at "vi"
  all_goals first | exact h | trace_state
/-! _law_ends -/
def b_law_ends : IS := .seq (.asg (.tup (.cons (.var 6) (.cons (.var 7) (.cons (.var 8) (.cons (.var 9) .nil))))) (.var 0)) (.seq (.asg (.var 3) (.ife (.oo (.cmp .gt (.var 1) (.call 0 (.cons (.var 6) (.cons (.bin .sub (.var 7) (.cst (.int 1))) .nil)))) (.cmp .eq (.var 2) (.var 8))) (.tup (.cons (.bin .sub (.var 1) (.cst (.int 1))) (.cons (.var 2) .nil))) (.tup (.cons (.bin .sub (.call 0 (.cons (.var 6) (.cons (.var 7) .nil))) (.cst (.int 1))) (.cons (.bin .sub (.var 2) (.cst (.int 1))) .nil))))) (.seq (.asg (.var 4) (.lst 1 (.nil))) (.seq (.fr (.var 5) (.tup (.cons (.var 3) (.cons (.call 1 (.cons (.var 0) (.cons (.var 1) (.cons (.var 2) .nil)))) .nil))) (.seq (.asg (.tup (.cons (.var 10) (.cons (.var 11) .nil))) (.tup (.cons (.call 2 (.cons (.var 0) (.cons (.var 1) (.cons (.var 2) .nil)))) (.cons (.call 2 (.cons (.var 0) (.cons (.ixc (.var 5) 0) (.cons (.ixc (.var 5) 1) .nil)))) .nil)))) (.seq (.app (.var 4) (.tup (.cons (.bin .add (.bin .mul (.ixc (.var 10) 0) (.ixc (.var 11) 1)) (.bin .mul (.ixc (.var 11) 0) (.ixc (.var 10) 1))) (.cons (.bin .mul (.bin .mul (.cst (.int 2)) (.ixc (.var 10) 1)) (.ixc (.var 11) 1)) .nil)))) .skip))) (.seq (.ret (.tup (.cons (.ixc (.var 4) 0) (.cons (.ixc (.var 4) 1) (.cons (.cmp .eq (.bin .mod (.blt .int 0 (.cons (.var 1) .nil)) (.cst (.int 2))) (.cst (.int 0))) .nil))))) .skip))))
def tb_law_ends : Tb := ⟨[((Str.ofString "_law_to"), 2, sp_law_to), ((Str.ofString "_law_next"), 3, sp_law_next), ((Str.ofString "_law_size"), 3, sp_law_size)], []⟩
theorem tbm_law_ends : tb_law_ends.Mono := Tb.mono_of fun q hq => by
  simp only [tb_law_ends, List.mem_cons, List.not_mem_nil, or_false] at hq
  rcases hq with rfl | rfl | rfl
  · exact mono_law_to
  · exact mono_law_next
  · exact mono_law_size
def sp_law_ends : Sem := fun vs g Q => ∃ f s c e, vs = [.d (fmD f), .d (.int c), .d (.int e)] ∧ (FmD f ∧ NumOk f s c e ∧ 1 ≤ c) ∧ Q (.d (.tuple [dF (endP (lsz f c e) (lsz f (blw f c e).1 (blw f c e).2)), dF (endP (lsz f c e) (lsz f (uN f c e).1 (uN f c e).2)), .bool (decide (c % 2 = 0))])) g
theorem mono_law_ends : SemMono sp_law_ends := fun vs g Q Q' h ⟨f, s, c, e, e', a, q⟩ => ⟨f, s, c, e, e', a, h _ _ q⟩
theorem blw_ok {f : Fm} (hf : FmD f) {s c e : Int} (hn : NumOk f s c e) (hc : 1 ≤ c) : 0 ≤ (blw f c e).1 ∧ (blw f c e).1 ≤ f.T ∧ f.lo ≤ (blw f c e).2 ∧ (blw f c e).2 ≤ f.hi ∧ ((blw f c e).2 = e ∨ (blw f c e).2 = e - 1) := by
  have c1 : c < f.T := hn.c1
  have e1 := hn.e1
  have e2 := hn.e2
  have F := hf.F
  unfold blw
  split
  · exact ⟨by show 0 ≤ c - 1; omega, by show c - 1 ≤ f.T; omega, e1, e2, .inl rfl⟩
  · rename_i z
    exact ⟨by show 0 ≤ f.T - 1; omega, by show f.T - 1 ≤ f.T; omega, by show f.lo ≤ e - 1; omega, by show e - 1 ≤ f.hi; omega, .inr rfl⟩
theorem uN_ok' {f : Fm} (hf : FmD f) {s c e : Int} (hn : NumOk f s c e) : 0 ≤ (uN f c e).1 ∧ (uN f c e).1 ≤ f.T ∧ f.lo ≤ (uN f c e).2 ∧ (uN f c e).2 ≤ f.hi + 1 ∧ ((uN f c e).2 = e ∨ (uN f c e).2 = e + 1) := by
  have c1 : c < f.T := hn.c1
  have c0 := hn.c0
  have e1 := hn.e1
  have e2 := hn.e2
  have F := hf.F
  unfold uN
  split
  · exact ⟨by show 0 ≤ f.F; omega, by show f.F ≤ f.T; omega, by show f.lo ≤ e + 1; omega, by show e + 1 ≤ f.hi + 1; omega, .inr rfl⟩
  · exact ⟨by show 0 ≤ c + 1; omega, by show c + 1 ≤ f.T; omega, e1, by show e ≤ f.hi + 1; omega, .inl rfl⟩
theorem lsz_bitsE {f : Fm} (hf : FmD f) {c e : Int} (hc : Bd 641 c) (h : e.natAbs ≤ 20000) : Bd 121000 (lsz f c e).1 ∧ Bd 121000 (lsz f c e).2 ∧ 0 < (lsz f c e).2 ∧ MulOk c (powP f.b e).1 := by
  have b2 := hf.b2
  have b36 := hf.b36
  have bb : Bd 6 f.b := by unfold Bd; omega
  have q1 : Bd 120001 (powP f.b e).1 := by
    unfold powP
    split
    · exact (bb.pow _).up (by omega)
    · exact bd_one' (by decide)
  have q2 : Bd 120001 (powP f.b e).2 := by
    unfold powP
    split
    · exact bd_one' (by decide)
    · exact (bb.pow _).up (by omega)
  exact ⟨(hc.mul q1).up (by decide), q2.up (by decide), (powP_can b2 e).pos, hc.mulOk q1 (by decide)⟩
theorem pure_law_ends : ∀ vs g Q, sp_law_ends vs g Q → semF tb_law_ends 12 b_law_ends vs g Q := by
  rintro _ g Q ⟨⟨b, p, lo, hi⟩, s, c, e, rfl, ⟨hf, hn, hc⟩, h⟩
  refine seq_cut tbm_law_ends (fun env st => env = [some (.d (fmD ⟨b, p, lo, hi⟩)), some (.d (.int c)), some (.d (.int e)), none, none, none, some (.d (.int b)), some (.d (.int p)), some (.d (.int lo)), some (.d (.int hi)), none, none] ∧ st = ⟨g, []⟩) ?_ ?_
  · walk_at "w"
    exact ⟨rfl, rfl, rfl⟩
  rintro _ _ ⟨rfl, rfl⟩
  have p2 : 2 ≤ p := hf.p2
  have p3 : p ≤ 120 := hf.p120
  have wp := hf.pw (e := p) (by omega) (by omega)
  have wq := hf.pw (e := p - 1) (by omega) (by omega)
  obtain ⟨f, hfe⟩ : ∃ f : Fm, f = ⟨b, p, lo, hi⟩ := ⟨_, rfl⟩
  have flo : f.lo = lo := by rw [hfe]
  have fT : f.T = b ^ p.toNat := by rw [hfe]; rfl
  have fF : f.F = b ^ (p - 1).toNat := by rw [hfe]; rfl
  rw [← hfe] at hf hn h ⊢
  have l1 := hf.l
  have h1 := hf.h
  have lh := hf.lh
  have e1 := hn.e1
  have e2 := hn.e2
  have c1 : c < f.T := hn.c1
  have bT : Bd 640 f.T := hf.bp
  have bc : Bd 641 c := (bT.of_natAbs (by omega : c.natAbs ≤ f.T.natAbs)).up (by decide)
  obtain ⟨b1, b2, b3, b4, b5⟩ := blw_ok hf hn hc
  obtain ⟨u1, u2, u3, u4, u5⟩ := uN_ok' hf hn
  obtain ⟨B, hB⟩ : ∃ B, B = blw f c e := ⟨_, rfl⟩
  obtain ⟨U, hU⟩ : ∃ U, U = uN f c e := ⟨_, rfl⟩
  rw [← hB] at b1 b2 b3 b4 b5 h
  rw [← hU] at u1 u2 u3 u4 u5 h
  have bB : Bd 641 B.1 := (bT.of_natAbs (by omega : B.1.natAbs ≤ f.T.natAbs)).up (by decide)
  have bU : Bd 641 U.1 := (bT.of_natAbs (by omega : U.1.natAbs ≤ f.T.natAbs)).up (by decide)
  obtain ⟨x1, x2, x3, x4⟩ := lsz_bitsE hf bc (show e.natAbs ≤ 20000 by omega)
  obtain ⟨y1, y2, y3, y4⟩ := lsz_bitsE hf bB (show B.2.natAbs ≤ 20000 by omega)
  obtain ⟨z1, z2, z3, z4⟩ := lsz_bitsE hf bU (show U.2.natAbs ≤ 20000 by omega)
  have a1 : 2 ≤ f.b ∧ f.b ≤ 36 ∧ -30000 ≤ e ∧ e ≤ 30000 ∧ MulOk c (powP f.b e).1 := ⟨hf.b2, hf.b36, by omega, by omega, x4⟩
  have a2 : 2 ≤ f.b ∧ f.b ≤ 36 ∧ -30000 ≤ B.2 ∧ B.2 ≤ 30000 ∧ MulOk B.1 (powP f.b B.2).1 := ⟨hf.b2, hf.b36, by omega, by omega, y4⟩
  have a3 : 2 ≤ f.b ∧ f.b ≤ 36 ∧ -30000 ≤ U.2 ∧ U.2 ≤ 30000 ∧ MulOk U.1 (powP f.b U.2).1 := ⟨hf.b2, hf.b36, by omega, by omega, z4⟩
  obtain ⟨X, hX⟩ : ∃ X, X = lsz f c e := ⟨_, rfl⟩
  obtain ⟨Y, hY⟩ : ∃ Y, Y = lsz f B.1 B.2 := ⟨_, rfl⟩
  obtain ⟨Z, hZ⟩ : ∃ Z, Z = lsz f U.1 U.2 := ⟨_, rfl⟩
  rw [← hX] at x1 x2 h
  rw [← hY] at y1 y2 h
  rw [← hZ] at z1 z2 h
  have two : Bd 64 (2 : Int) := Bd.lit64 2 (by decide)
  have m2 : MulOk 2 X.2 := two.mulOk x2 (by decide)
  have m3 : MulOk (2 * X.2) Y.2 := (two.mul x2).mulOk y2 (by decide)
  have m4 : MulOk (2 * X.2) Z.2 := (two.mul x2).mulOk z2 (by decide)
  have m5 : MulOk X.1 Y.2 := x1.mulOk y2 (by decide)
  have m6 : MulOk Y.1 X.2 := y1.mulOk x2 (by decide)
  have m7 : MulOk X.1 Z.2 := x1.mulOk z2 (by decide)
  have m8 : MulOk Z.1 X.2 := z1.mulOk x2 (by decide)
  refine seq_cut tbm_law_ends (fun env st => env = [some (.d (fmD f)), some (.d (.int c)), some (.d (.int e)), some (.d (.tuple [.int B.1, .int B.2])), none, none, some (.d (.int b)), some (.d (.int p)), some (.d (.int lo)), some (.d (.int hi)), none, none] ∧ st = ⟨g, []⟩) ?_ ?_
  · rw [hB]
    unfold blw
    rw [fF, fT, flo]
    walk_at "w"
    refine And.intro wq ?_
    refine And.intro (fun z => ?_) (fun z => ?_)
    · have z := of_decide_eq_true z
      rw [if_pos (.inl z)]
      walk_at "w"
      refine And.intro (fun _ => ?_) (fun z => nomatch z)
      walk_at "w"
      exact ⟨rfl, rfl⟩
    · have z := of_decide_eq_false z
      walk_at "w"
      refine And.intro (.inl rfl) ?_
      rw [eqv_int]
      refine And.intro (fun y => ?_) (fun y => ?_)
      · have y := of_decide_eq_true y
        rw [if_pos (.inr y)]
        walk_at "w"
        exact ⟨rfl, rfl⟩
      · have y := of_decide_eq_false y
        rw [if_neg (fun w => w.elim z y)]
        walk_at "w"
        refine And.intro wp ?_
        walk_at "w"
        exact ⟨rfl, rfl⟩
  rintro _ _ ⟨rfl, rfl⟩
  refine seq_cut tbm_law_ends (fun env st => env = [some (.d (fmD f)), some (.d (.int c)), some (.d (.int e)), some (.d (.tuple [.int B.1, .int B.2])), some (.lm 0), none, some (.d (.int b)), some (.d (.int p)), some (.d (.int lo)), some (.d (.int hi)), none, none] ∧ st = ⟨g, [some []]⟩) ?_ ?_
  · walk_at "w"
    exact ⟨rfl, rfl⟩
  rintro _ _ ⟨rfl, rfl⟩
  refine seq_cut tbm_law_ends (fun env st => ∃ z5 z10 z11, env = [some (.d (fmD f)), some (.d (.int c)), some (.d (.int e)), some (.d (.tuple [.int B.1, .int B.2])), some (.lm 0), z5, some (.d (.int b)), some (.d (.int p)), some (.d (.int lo)), some (.d (.int hi)), z10, z11] ∧ st = ⟨g, [some [dF (endP X Y), dF (endP X Z)]]⟩) ?_ ?_
  · walk_at "w"
    refine ⟨f, c, e, rfl, ⟨hf, c1⟩, ?_⟩
    rw [← hU]
    walk_at "w"
    refine ⟨f, c, e, rfl, a1, ?_⟩
    rw [← hX]
    walk_at "w"
    refine ⟨f, B.1, B.2, rfl, a2, ?_⟩
    rw [← hY]
    walk_at "w"
    refine And.intro rfl ?_
    walk_at "w"
    refine And.intro trivial ?_
    walk_at "w"
    refine And.intro m5 ?_
    walk_at "w"
    refine And.intro m6 ?_
    walk_at "w"
    refine And.intro m2 ?_
    walk_at "w"
    refine And.intro m3 ?_
    walk_at "w"
    refine And.intro (by decide) ?_
    walk_at "w"
    refine ⟨f, c, e, rfl, a1, ?_⟩
    rw [← hX]
    walk_at "w"
    refine ⟨f, U.1, U.2, rfl, a3, ?_⟩
    rw [← hZ]
    walk_at "w"
    refine And.intro rfl ?_
    walk_at "w"
    refine And.intro trivial ?_
    walk_at "w"
    refine And.intro m7 ?_
    walk_at "w"
    refine And.intro m8 ?_
    walk_at "w"
    refine And.intro m2 ?_
    walk_at "w"
    refine And.intro m4 ?_
    walk_at "w"
    refine And.intro (by show (1 : Nat) < 1000000; decide) ?_
    exact ⟨_, _, _, rfl, rfl⟩
  rintro _ _ ⟨z5, z10, z11, rfl, rfl⟩
  walk_at "w"
  refine And.intro (by decide) ?_
  walk_at "w"
  refine And.intro (.inl rfl) ?_
  rw [eqv_int]
  exact h
/-! _law_top -/
def b_law_top : IS := .seq (.asg (.var 2) (.bin .sub (.bin .sub (.blt .len 0 (.cons (.blt .str 0 (.cons (.var 0) .nil)) .nil)) (.blt .len 0 (.cons (.blt .str 0 (.cons (.var 1) .nil)) .nil))) (.cst (.int 1)))) (.seq (.whl (.cmp .le (.call 0 (.cons (.call 1 (.cons (.cst (.int 10)) (.cons (.var 2) .nil))) (.cons (.tup (.cons (.var 0) (.cons (.var 1) .nil))) .nil))) (.cst (.int 0))) (.seq (.aug .add 2 (.cst (.int 1))) .skip)) (.seq (.ret (.var 2)) .skip))
def tb_law_top : Tb := ⟨[((Str.ofString "_law_compared"), 2, sp_law_compared), ((Str.ofString "_law_power"), 2, sp_law_power)], []⟩
theorem tbm_law_top : tb_law_top.Mono := Tb.mono_of fun q hq => by
  simp only [tb_law_top, List.mem_cons, List.not_mem_nil, or_false] at hq
  rcases hq with rfl | rfl
  · exact mono_law_compared
  · exact mono_law_power
def sp_law_top : Sem := fun vs g Q => ∃ n d, vs = [.d (.int n), .d (.int d)] ∧ (1 ≤ n ∧ 1 ≤ d ∧ Bd 14000 n ∧ Bd 14000 d ∧ ((digN n : Int) - digN d).natAbs ≤ 1990) ∧ ∀ t, TopD (wo (n, d)) t → (digN n : Int) - digN d ≤ t → t ≤ (digN n : Int) - digN d + 1 → Q (.d (.int t)) g
theorem mono_law_top : SemMono sp_law_top := fun vs g Q Q' h ⟨n, d, e, a, q⟩ => ⟨n, d, e, a, fun t h1 h2 h3 => h _ _ (q t h1 h2 h3)⟩
theorem dig4300 {c : Int} (bc : Bd 14000 c) (c0 : 0 ≤ c) : digN c ≤ 4300 := by
  refine (dig_iff c0 (k := 4300) (by decide)).mpr ?_
  have := bc.show (by decide)
  have e : ((c.natAbs : Nat) : Int) < ((10 ^ 4300 : Nat) : Int) := by exact_mod_cast this
  rw [show ((c.natAbs : Nat) : Int) = c by omega] at e
  refine Int.lt_of_lt_of_le e (Int.le_of_eq ?_)
  rw [Int.natCast_pow]
  rfl
theorem pure_law_top : ∀ vs g Q, sp_law_top vs g Q → semF tb_law_top 3 b_law_top vs g Q := by
  rintro _ g Q ⟨n, d, rfl, ⟨hn, hd, bn, bd, dd⟩, h⟩
  obtain ⟨t, ht⟩ := top_exists hn hd
  obtain ⟨t1, t2⟩ := top_start hn hd ht
  have l1 : digN n ≤ 4300 := dig4300 bn (by omega)
  have l2 : digN d ≤ 4300 := dig4300 bd (by omega)
  have p1 := dig_pos (show 0 ≤ n by omega)
  have p2 := dig_pos (show 0 ≤ d by omega)
  have h := h t ht t1 t2
  have s1 : 4300 ≤ sizeLine := by decide
  refine seq_cut tbm_law_top (fun env st => env = [some (.d (.int n)), some (.d (.int d)), some (.d (.int ((digN n : Int) - digN d - 1)))] ∧ st = ⟨g, []⟩) ?_ ?_
  · walk_at "w"
    refine And.intro (.inr (str_ok (bn.up (by decide)))) ?_
    walk_at "w"
    rw [dig_str]
    refine And.intro (show digN n ≤ sizeLine by omega) ?_
    walk_at "w"
    refine And.intro (.inr (str_ok (bd.up (by decide)))) ?_
    walk_at "w"
    rw [dig_str]
    refine And.intro (show digN d ≤ sizeLine by omega) ?_
    walk_at "w"
    exact ⟨rfl, rfl⟩
  rintro _ _ ⟨rfl, rfl⟩
  refine seq_cut tbm_law_top (fun env st => env = [some (.d (.int n)), some (.d (.int d)), some (.d (.int t))] ∧ st = ⟨g, []⟩) ?_ ?_
  · refine ⟨fun m env st => st = ⟨g, []⟩ ∧ ∃ e : Int, env = [some (.d (.int n)), some (.d (.int d)), some (.d (.int e))] ∧ (digN n : Int) - digN d - 1 ≤ e ∧ e ≤ t ∧ m = (t - e).toNat, ⟨_, rfl, _, rfl, Int.le_refl _, by omega, rfl⟩, ?_⟩
    rintro m _ _ ⟨rfl, e, rfl, e1, e2, rfl⟩
    obtain ⟨b1, b2, c1, c2, _⟩ := ten_pow (e := e) (by omega)
    have wp : wo (powP 10 e) = bp 10 e := rfl
    obtain ⟨P, hP⟩ : ∃ P, P = powP 10 e := ⟨_, rfl⟩
    rw [← hP] at b1 b2 c1 c2 wp
    have i : wo P ≤ wo (n, d) ↔ P.1 * d - n * P.2 ≤ 0 := by
      rw [← Rat.not_lt]
      have := below_iff0 (a := n) (b := d) (c := P.1) (d := P.2) (show 0 < d by omega) (show 0 < P.2 by omega)
      rw [show wo P = wo (P.1, P.2) from rfl, ← this]
      omega
    walk_at "w"
    refine ⟨10, e, rfl, ⟨by decide, by decide, by omega, by omega⟩, ?_⟩
    rw [← hP]
    walk_at "w"
    refine ⟨P.1, P.2, n, d, rfl, ⟨b1.mulOk bd (by decide), bn.mulOk b2 (by decide)⟩, ?_⟩
    walk_at "w"
    refine And.intro (fun z => ?_) (fun z => ?_)
    · have z := i.mpr (of_decide_eq_true z)
      rw [wp] at z
      have lt : e < t := by
        apply Classical.byContradiction
        intro y
        exact absurd (Std.lt_of_lt_of_le ht.2 (Rat.le_trans (bp_mono ten2 (show t ≤ e by omega)) z)) (Rat.not_lt.mpr Rat.le_refl)
      walk_at "w"
      refine And.intro trivial (And.intro (fun z => by cases z) ?_)
      walk_at "w"
      refine ⟨_, ?_, rfl, e + 1, rfl, by omega, by omega, rfl⟩
      omega
    · have z := of_decide_eq_false z
      have et : e = t := by
        apply Classical.byContradiction
        intro y
        refine z (i.mp ?_)
        rw [wp]
        exact Rat.le_trans (bp_mono ten2 (show e ≤ t - 1 by omega)) ht.1
      subst et
      exact ⟨rfl, rfl⟩
  rintro _ _ ⟨rfl, rfl⟩
  walk_at "w"
  exact h
/-! _law_divisor_by_ten -/
def b_law_divisor_by_ten : IS := .seq (.asg (.tup (.cons (.var 1) (.cons (.var 2) .nil))) (.tup (.cons (.cst (.int 0)) (.cons (.cst (.int 0)) .nil)))) (.seq (.whl (.cmp .eq (.bin .mod (.blt .int 0 (.cons (.var 0) .nil)) (.cst (.int 2))) (.cst (.int 0))) (.seq (.asg (.tup (.cons (.var 0) (.cons (.var 1) .nil))) (.tup (.cons (.bin .fdiv (.blt .int 0 (.cons (.var 0) .nil)) (.cst (.int 2))) (.cons (.bin .add (.var 1) (.cst (.int 1))) .nil)))) .skip)) (.seq (.whl (.cmp .eq (.bin .mod (.blt .int 0 (.cons (.var 0) .nil)) (.cst (.int 5))) (.cst (.int 0))) (.seq (.asg (.tup (.cons (.var 0) (.cons (.var 2) .nil))) (.tup (.cons (.bin .fdiv (.blt .int 0 (.cons (.var 0) .nil)) (.cst (.int 5))) (.cons (.bin .add (.var 2) (.cst (.int 1))) .nil)))) .skip)) (.seq (.ret (.ife (.an (.cmp .eq (.var 0) (.cst (.int 1))) (.cmp .le (.blt .max2 0 (.cons (.var 1) (.cons (.var 2) .nil))) (.cst (.int 1200)))) (.blt .max2 0 (.cons (.var 1) (.cons (.var 2) .nil))) (.cst .none))) .skip)))
def tb_law_divisor_by_ten : Tb := ⟨[], []⟩
theorem tbm_law_divisor_by_ten : tb_law_divisor_by_ten.Mono := Tb.mono_of fun q hq => by
  simp only [tb_law_divisor_by_ten, List.mem_cons, List.not_mem_nil, or_false] at hq
def dvD : Option Nat → D
  | some m => .int (m : Nat)
  | none => .none
def DvTo (d : Int) (r : Option Nat) : Prop := (∀ m, r = some m → ∃ a b, DivT d a b ∧ m = max a b ∧ m ≤ 1200) ∧ ((∃ a b, DivT d a b ∧ max a b ≤ 1200) → ∃ m, r = some m)
def sp_law_divisor_by_ten : Sem := fun vs g Q => ∃ d, vs = [.d (.int d)] ∧ 1 ≤ d ∧ ∀ r, DvTo d r → Q (.d (dvD r)) g
theorem mono_law_divisor_by_ten : SemMono sp_law_divisor_by_ten := fun vs g Q Q' h ⟨d, e', a, q⟩ => ⟨d, e', a, fun r x => h _ _ (q r x)⟩
theorem odd_fiveD (k : Nat) : (5 : Int) ^ k % 2 = 1 := by
  induction k with
  | zero => rfl
  | succ k ih => rw [Int.pow_succ, Int.mul_emod, ih]; rfl
theorem pure_law_divisor_by_ten : ∀ vs g Q, sp_law_divisor_by_ten vs g Q → semF tb_law_divisor_by_ten 3 b_law_divisor_by_ten vs g Q := by
  rintro _ g Q ⟨d, rfl, d1, h⟩
  refine seq_cut tbm_law_divisor_by_ten (fun env st => env = [some (.d (.int d)), some (.d (.int 0)), some (.d (.int 0))] ∧ st = ⟨g, []⟩) ?_ ?_
  · walk_at "w"
    exact ⟨rfl, rfl, rfl⟩
  rintro _ _ ⟨rfl, rfl⟩
  refine seq_cut tbm_law_divisor_by_ten (fun env st => ∃ (cur : Int) (t : Nat), env = [some (.d (.int cur)), some (.d (.int (t : Nat))), some (.d (.int 0))] ∧ st = ⟨g, []⟩ ∧ 1 ≤ cur ∧ d = cur * 2 ^ t ∧ ∀ a b, DivT d a b → a = t ∧ cur = 5 ^ b) ?_ ?_
  · refine ⟨fun m env st => st = ⟨g, []⟩ ∧ ∃ (cur : Int) (t : Nat), env = [some (.d (.int cur)), some (.d (.int (t : Nat))), some (.d (.int 0))] ∧ (1 ≤ cur ∧ d = cur * 2 ^ t ∧ ∀ a b, DivT d a b → t ≤ a ∧ cur = 2 ^ (a - t) * 5 ^ b) ∧ m = cur.toNat, ⟨_, rfl, d, 0, rfl, ⟨d1, by simp, fun a b q => ⟨Nat.zero_le _, q⟩⟩, rfl⟩, ?_⟩
    rintro m _ _ ⟨rfl, cur, t, rfl, ⟨k1, k2, k3⟩, rfl⟩
    walk_at "w"
    refine And.intro (by decide) ?_
    walk_at "w"
    refine And.intro (.inl rfl) ?_
    rw [eqv_int]
    refine And.intro (fun z => ?_) (fun z => ?_)
    · have z : cur % 2 = 0 := of_decide_eq_true z
      have fd : cur.fdiv 2 = cur / 2 := Int.fdiv_eq_ediv_of_nonneg _ (by decide)
      walk_at "w"
      refine And.intro ⟨by decide, by decide +kernel⟩ ?_
      rw [fd]
      walk_at "w"
      refine ⟨rfl, (cur / 2).toNat, by omega, rfl, cur / 2, t + 1, rfl, ⟨by omega, ?_, fun a b q => ?_⟩, rfl⟩
      · rw [Int.pow_succ, k2]
        have : cur = cur / 2 * 2 := by omega
        generalize (2 : Int) ^ t = P at *
        generalize cur / 2 = X at *
        rw [this]
        grind
      · obtain ⟨ta, hc⟩ := k3 a b q
        have ne : t ≠ a := fun y => by
          subst y
          rw [Nat.sub_self, Int.pow_zero, Int.one_mul] at hc
          have := odd_fiveD b
          rw [← hc] at this
          omega
        refine ⟨by omega, ?_⟩
        rw [show a - t = (a - (t + 1)) + 1 by omega, Int.pow_succ] at hc
        have : cur = 2 * (2 ^ (a - (t + 1)) * 5 ^ b) := by rw [hc]; grind
        omega
    · have z : ¬ cur % 2 = 0 := of_decide_eq_false z
      refine ⟨cur, t, rfl, rfl, k1, k2, fun a b q => ?_⟩
      obtain ⟨ta, hc⟩ := k3 a b q
      have e : a = t := by
        apply Classical.byContradiction
        intro y
        rw [show a - t = (a - t - 1) + 1 by omega, Int.pow_succ] at hc
        have : cur = 2 * (2 ^ (a - t - 1) * 5 ^ b) := by rw [hc]; grind
        omega
      refine ⟨e, ?_⟩
      rw [e, Nat.sub_self, Int.pow_zero, Int.one_mul] at hc
      exact hc
  rintro _ _ ⟨cur, t, rfl, rfl, k1, k2, k3⟩
  refine seq_cut tbm_law_divisor_by_ten (fun env st => ∃ (c2 : Int) (s : Nat), env = [some (.d (.int c2)), some (.d (.int (t : Nat))), some (.d (.int (s : Nat)))] ∧ st = ⟨g, []⟩ ∧ 1 ≤ c2 ∧ cur = c2 * 5 ^ s ∧ ∀ a b, DivT d a b → b = s ∧ c2 = 1) ?_ ?_
  · refine ⟨fun m env st => st = ⟨g, []⟩ ∧ ∃ (c2 : Int) (s : Nat), env = [some (.d (.int c2)), some (.d (.int (t : Nat))), some (.d (.int (s : Nat)))] ∧ (1 ≤ c2 ∧ cur = c2 * 5 ^ s ∧ ∀ a b, DivT d a b → s ≤ b ∧ c2 = 5 ^ (b - s)) ∧ m = c2.toNat, ⟨_, rfl, cur, 0, rfl, ⟨k1, by simp, fun a b q => ⟨Nat.zero_le _, (k3 a b q).2⟩⟩, rfl⟩, ?_⟩
    rintro m _ _ ⟨rfl, c2, s, rfl, ⟨j1, j2, j3⟩, rfl⟩
    walk_at "w"
    refine And.intro (by decide) ?_
    walk_at "w"
    refine And.intro (.inl rfl) ?_
    rw [eqv_int]
    refine And.intro (fun z => ?_) (fun z => ?_)
    · have z : c2 % 5 = 0 := of_decide_eq_true z
      have fd : c2.fdiv 5 = c2 / 5 := Int.fdiv_eq_ediv_of_nonneg _ (by decide)
      walk_at "w"
      refine And.intro ⟨by decide, by decide +kernel⟩ ?_
      rw [fd]
      walk_at "w"
      refine ⟨rfl, (c2 / 5).toNat, by omega, rfl, c2 / 5, s + 1, rfl, ⟨by omega, ?_, fun a b q => ?_⟩, rfl⟩
      · rw [Int.pow_succ, j2]
        have : c2 = c2 / 5 * 5 := by omega
        generalize (5 : Int) ^ s = P at *
        generalize c2 / 5 = X at *
        rw [this]
        grind
      · obtain ⟨ta, hc⟩ := j3 a b q
        have ne : s ≠ b := fun y => by
          subst y
          rw [Nat.sub_self, Int.pow_zero] at hc
          omega
        refine ⟨by omega, ?_⟩
        rw [show b - s = (b - (s + 1)) + 1 by omega, Int.pow_succ] at hc
        omega
    · have z : ¬ c2 % 5 = 0 := of_decide_eq_false z
      refine ⟨c2, s, rfl, rfl, j1, j2, fun a b q => ?_⟩
      obtain ⟨ta, hc⟩ := j3 a b q
      have e : b = s := by
        apply Classical.byContradiction
        intro y
        rw [show b - s = (b - s - 1) + 1 by omega, Int.pow_succ] at hc
        omega
      refine ⟨e, ?_⟩
      rw [e, Nat.sub_self, Int.pow_zero] at hc
      exact hc
  rintro _ _ ⟨c2, s, rfl, rfl, j1, j2, j3⟩
  have mx : ∀ x y : Nat, max ((x : Nat) : Int) ((y : Nat) : Int) = ((max x y : Nat) : Int) := fun x y => by omega
  walk_at "w"
  refine And.intro (.inl rfl) ?_
  rw [eqv_int]
  refine And.intro (fun z => ?_) (fun z => ?_)
  · have z := of_decide_eq_true z
    subst z
    have form : DivT d t s := by
      unfold DivT
      rw [k2, j2]
      grind
    walk_at "w"
    rw [mx]
    refine And.intro (fun y => ?_) (fun y => ?_)
    · have y := of_decide_eq_true y
      walk_at "w"
      rw [mx]
      exact h (some (max t s)) ⟨fun m q => ⟨t, s, form, by cases q; rfl, by cases q; omega⟩, fun _ => ⟨_, rfl⟩⟩
    · have y := of_decide_eq_false y
      walk_at "w"
      refine h none ⟨fun m q => (by cases q), fun ⟨a, b, q, l⟩ => ?_⟩
      obtain ⟨e1, _⟩ := k3 a b q
      obtain ⟨e2, _⟩ := j3 a b q
      omega
  · have z := of_decide_eq_false z
    walk_at "w"
    refine And.intro (fun z => nomatch z) (fun _ => ?_)
    walk_at "w"
    refine h none ⟨fun m q => (by cases q), fun ⟨a, b, q, l⟩ => ?_⟩
    exact absurd (j3 a b q).2 z
/-! _law_decimal_near -/
def b_law_decimal_near : IS := .seq (.asg (.var 2) (.call 0 (.cons (.var 0) (.cons (.cst (.int 8)) .nil)))) (.seq (.ifs (.cmp .eq (.var 2) (.cst (.int 0))) (.seq (.ret (.tup (.cons (.call 0 (.cons (.var 0) (.cons (.cst (.int 2)) .nil))) (.cons (.call 1 (.cons (.var 0) (.cons (.lst 0 (.cons (.cst (.int 0)) (.cons (.cst (.int 1)) (.cons (.cst (.int 5)) (.cons (.cst (.int 25)) (.cons (.cst (.int 99)) (.cons (.cst (.int 100)) (.cons (.call 0 (.cons (.var 0) (.cons (.bin .pow (.cst (.int 10)) (.cst (.int 9))) .nil))) .nil)))))))) .nil))) (.cons (.bin .sub (.call 0 (.cons (.var 0) (.cons (.cst (.int 30)) .nil))) (.cst (.int 15))) .nil))))) .skip) (.skip)) (.seq (.ifs (.cmp .eq (.var 2) (.cst (.int 1))) (.seq (.ret (.tup (.cons (.call 0 (.cons (.var 0) (.cons (.cst (.int 2)) .nil))) (.cons (.bin .add (.cst (.int 1)) (.call 0 (.cons (.var 0) (.cons (.cst (.int 99)) .nil)))) (.cons (.call 1 (.cons (.var 0) (.cons (.lst 0 (.cons (.bin .pow (.cst (.int 10)) (.cst (.int 9))) (.cons (.neg (.bin .pow (.cst (.int 10)) (.cst (.int 9)))) (.cons (.cst (.int 4500)) (.cons (.neg (.cst (.int 4500))) (.cons (.cst (.int 400)) (.cons (.neg (.cst (.int 400))) (.cons (.cst (.int 300)) .nil)))))))) .nil))) .nil))))) .skip) (.skip)) (.seq (.asg (.var 3) (.call 2 (.cons (.var 0) (.cons (.var 1) .nil)))) (.seq (.asg (.var 4) (.call 3 (.cons (.var 1) (.cons (.ixc (.var 3) 2) (.cons (.ixc (.var 3) 3) .nil))))) (.seq (.asg (.tup (.cons (.var 7) (.cons (.var 8) .nil))) (.call 1 (.cons (.var 0) (.cons (.lst 0 (.cons (.call 4 (.cons (.var 1) (.cons (.ixc (.var 3) 2) (.cons (.ixc (.var 3) 3) .nil)))) (.cons (.ixc (.var 4) 0) (.cons (.ixc (.var 4) 1) (.cons (.ixc (.var 4) 1) .nil))))) .nil)))) (.seq (.asg (.var 5) (.call 1 (.cons (.var 0) (.cons (.lst 0 (.cons (.cst (.int 1)) (.cons (.cst (.int 2)) (.cons (.cst (.int 3)) (.cons (.cst (.int 9)) (.cons (.cst (.int 20)) (.cons (.cst (.int 40)) (.cons (.cst (.int 60)) .nil)))))))) .nil)))) (.seq (.ifs (.an (.cmp .lt (.var 2) (.cst (.int 5))) (.notN (.call 5 (.cons (.var 8) .nil)))) (.seq (.asg (.var 9) (.call 5 (.cons (.var 8) .nil))) (.seq (.asg (.var 10) (.bin .fdiv (.bin .mul (.var 7) (.call 6 (.cons (.cst (.int 10)) (.cons (.var 9) .nil)))) (.var 8))) (.seq (.ret (.tup (.cons (.ixc (.var 3) 1) (.cons (.blt .max2 0 (.cons (.cst (.int 0)) (.cons (.bin .add (.bin .mul (.var 10) (.cst (.int 10))) (.call 1 (.cons (.var 0) (.cons (.lst 0 (.cons (.cst (.int 0)) (.cons (.cst (.int 0)) (.cons (.cst (.int 1)) (.cons (.neg (.cst (.int 1))) .nil))))) .nil)))) .nil))) (.cons (.bin .sub (.neg (.var 9)) (.cst (.int 1))) .nil))))) .skip))) (.skip)) (.seq (.asg (.var 6) (.bin .sub (.call 7 (.cons (.var 7) (.cons (.var 8) .nil))) (.var 5))) (.seq (.asg (.tup (.cons (.var 11) (.cons (.var 12) .nil))) (.call 8 (.cons (.cst (.int 10)) (.cons (.var 6) .nil)))) (.seq (.ret (.tup (.cons (.ixc (.var 3) 1) (.cons (.bin .add (.bin .fdiv (.bin .mul (.var 7) (.var 12)) (.bin .mul (.var 8) (.var 11))) (.call 0 (.cons (.var 0) (.cons (.cst (.int 2)) .nil)))) (.cons (.var 6) .nil))))) .skip))))))))))
def tb_law_decimal_near : Tb := ⟨[((Str.ofString "_law_take"), 2, sp_law_take), ((Str.ofString "_law_some"), 2, sp_law_some), ((Str.ofString "_law_number"), 2, sp_law_number), ((Str.ofString "_law_ends"), 3, sp_law_ends), ((Str.ofString "_law_size"), 3, sp_law_size), ((Str.ofString "_law_divisor_by_ten"), 1, sp_law_divisor_by_ten), ((Str.ofString "_law_to"), 2, sp_law_to), ((Str.ofString "_law_top"), 2, sp_law_top), ((Str.ofString "_law_power"), 2, sp_law_power)], []⟩
theorem tbm_law_decimal_near : tb_law_decimal_near.Mono := Tb.mono_of fun q hq => by
  simp only [tb_law_decimal_near, List.mem_cons, List.not_mem_nil, or_false] at hq
  rcases hq with rfl | rfl | rfl | rfl | rfl | rfl | rfl | rfl | rfl
  · exact mono_law_take
  · exact mono_law_some
  · exact mono_law_number
  · exact mono_law_ends
  · exact mono_law_size
  · exact mono_law_divisor_by_ten
  · exact mono_law_to
  · exact mono_law_top
  · exact mono_law_power
structure DecOk (f : Fm) (s c e : Int) : Prop where
  s : s = 0 ∨ s = 1
  c0 : 0 ≤ c
  bc : Bd 5070 c
  r : RoomB f c e
  el : e.natAbs ≤ 2000000000
def sp_law_decimal_near : Sem := fun vs g Q => ∃ f xs gs, vs = [.gm 0, .d (fmD f)] ∧ g = xs :: gs ∧ ∃ C, (BagAt C xs ∧ C < 2 ^ 57 ∧ FmD f) ∧ ∀ s c e xs', DecOk f s c e → BagAt (C + 20) xs' → Q (.d (decD s c e)) (xs' :: gs)
theorem mono_law_decimal_near : SemMono sp_law_decimal_near := fun vs g Q Q' h ⟨f, xs, gs, e1, e2, C, a, q⟩ => ⟨f, xs, gs, e1, e2, C, a, fun s c e x h1 h2 => h _ _ (q s c e x h1 h2)⟩
theorem room_small {f : Fm} {c e : Int} (h0 : 0 ≤ c) (h : c < 10 ^ 100) (he : e.natAbs ≤ 2000) : RoomB f c e := by
  refine .inr ⟨he, ?_⟩
  have := (dig_iff h0 (k := 100) (by decide)).mpr h
  omega
theorem pure_law_decimal_near : ∀ vs g Q, sp_law_decimal_near vs g Q → semF tb_law_decimal_near 13 b_law_decimal_near vs g Q := by
  rintro _ _ Q ⟨f, xs, gs, rfl, rfl, C, ⟨hb, hC, hf⟩, h⟩
  have l1 := hf.l
  have h1 := hf.h
  have lh := hf.lh
  have p3 := hf.p120
  refine seq_cut tbm_law_decimal_near (fun env st => ∃ way x, env = [some (.gm 0), some (.d (fmD f)), some (.d (.int way)), none, none, none, none, none, none, none, none, none, none] ∧ st = ⟨x :: gs, []⟩ ∧ (0 ≤ way ∧ way < 8) ∧ BagAt (C + 1) x) ?_ ?_
  · walk_at "w"
    refine ⟨C, ⟨hb, by omega, by decide, (Bd.lit64 8 (by decide)).up (by decide)⟩, fun v x1 v0 v1 hb1 => ?_⟩
    walk_at "w"
    exact ⟨v, x1, rfl, rfl, ⟨v0, v1⟩, hb1⟩
  clear hb
  rintro _ _ ⟨way, x, rfl, rfl, ⟨w0, w8⟩, hb⟩
  refine seq_cut tbm_law_decimal_near (fun env st => env = [some (.gm 0), some (.d (fmD f)), some (.d (.int way)), none, none, none, none, none, none, none, none, none, none] ∧ st = ⟨x :: gs, []⟩) ?_ ?_
  · walk_at "w"
    refine And.intro (.inl rfl) ?_
    rw [eqv_int]
    refine And.intro (fun _ => ?_) (fun _ => ⟨rfl, rfl⟩)
    walk_at "w"
    refine ⟨C + 1, ⟨hb, by omega, by decide, (Bd.lit64 2 (by decide)).up (by decide)⟩, fun s x1 s0 s1 hb1 => ?_⟩
    walk_at "w"
    refine And.intro ⟨by decide, by decide, by decide⟩ ?_
    walk_at "w"
    refine ⟨C + 2, ⟨hb1, by omega, by decide, (Bd.lit64 _ (by decide)).up (by decide)⟩, fun u x2 u0 u1 hb2 => ?_⟩
    walk_at "w"
    refine ⟨C + 3, ⟨hb2, by omega, by simp, by show (7 : Nat) ≤ 1000000; decide⟩, fun y x3 hy hb3 => ?_⟩
    have u1 : u < 1000000000 := u1
    obtain ⟨c, rfl, c0, c1⟩ : ∃ c : Int, y = .int c ∧ 0 ≤ c ∧ c < 1000000000 := by
      simp only [List.mem_cons, List.not_mem_nil, or_false] at hy
      rcases hy with rfl | rfl | rfl | rfl | rfl | rfl | rfl <;> exact ⟨_, rfl, by omega, by omega⟩
    clear hy
    walk_at "w"
    refine ⟨C + 4, ⟨hb3, by omega, by decide, (Bd.lit64 30 (by decide)).up (by decide)⟩, fun v x4 v0 v1 hb4 => ?_⟩
    walk_at "w"
    exact h s c (v - 15) x4 ⟨by omega, c0, (Bd.lit64 c (by omega)).up (by decide), room_small c0 (Int.lt_of_lt_of_le c1 (by decide)) (by omega), by omega⟩ (hb4.up (by omega))
  rintro _ _ ⟨rfl, rfl⟩
  refine seq_cut tbm_law_decimal_near (fun env st => env = [some (.gm 0), some (.d (fmD f)), some (.d (.int way)), none, none, none, none, none, none, none, none, none, none] ∧ st = ⟨x :: gs, []⟩) ?_ ?_
  · walk_at "w"
    refine And.intro (.inl rfl) ?_
    rw [eqv_int]
    refine And.intro (fun _ => ?_) (fun _ => ⟨rfl, rfl⟩)
    walk_at "w"
    refine ⟨C + 1, ⟨hb, by omega, by decide, (Bd.lit64 2 (by decide)).up (by decide)⟩, fun s x1 s0 s1 hb1 => ?_⟩
    walk_at "w"
    refine ⟨C + 2, ⟨hb1, by omega, by decide, (Bd.lit64 99 (by decide)).up (by decide)⟩, fun u x2 u0 u1 hb2 => ?_⟩
    walk_at "w"
    refine And.intro ⟨by decide, by decide, by decide⟩ ?_
    walk_at "w"
    refine And.intro ⟨by decide, by decide, by decide⟩ ?_
    walk_at "w"
    refine ⟨C + 3, ⟨hb2, by omega, by simp, by show (7 : Nat) ≤ 1000000; decide⟩, fun y x3 hy hb3 => ?_⟩
    obtain ⟨e, rfl, el⟩ : ∃ e : Int, y = .int e ∧ e.natAbs ≤ 2000000000 := by
      simp only [List.mem_cons, List.not_mem_nil, or_false] at hy
      rcases hy with rfl | rfl | rfl | rfl | rfl | rfl | rfl <;> exact ⟨_, rfl, by decide⟩
    clear hy
    walk_at "w"
    refine h s (1 + u) e x3 ⟨by omega, by omega, (Bd.lit64 _ (by omega)).up (by decide), .inl ?_, el⟩ (hb3.up (by omega))
    have := (dig_iff (show 0 ≤ 1 + u by omega) (k := 2) (by decide)).mpr (Int.lt_of_le_of_lt (show 1 + u ≤ 99 by omega) (by decide))
    unfold roomF
    omega
  rintro _ _ ⟨rfl, rfl⟩
  refine seq_cut tbm_law_decimal_near (fun env st => ∃ s c e x, env = [some (.gm 0), some (.d (fmD f)), some (.d (.int way)), some (.d (vlD (.num s c e))), none, none, none, none, none, none, none, none, none] ∧ st = ⟨x :: gs, []⟩ ∧ (NumOk f s c e ∧ 1 ≤ c) ∧ BagAt (C + 9) x) ?_ ?_
  · walk_at "w"
    refine ⟨f, x, gs, rfl, rfl, C + 1, ⟨hb, by omega, hf⟩, fun s c e x1 hn c1 hb1 => ?_⟩
    walk_at "w"
    exact ⟨s, c, e, x1, rfl, rfl, ⟨hn, c1⟩, hb1⟩
  clear hb
  rintro _ _ ⟨s, c, e, x, rfl, rfl, ⟨hn, hc⟩, hb⟩
  obtain ⟨b1, b2, b3, b4, b5⟩ := blw_ok hf hn hc
  obtain ⟨u1, u2, u3, u4, u5⟩ := uN_ok' hf hn
  have c1 : c < f.T := hn.c1
  have k0 := endK_num hf hn hc
  have k1 := endK_two hf (c := c) (e := e) hc (by omega) b1 b2 hn.e1 hn.e2 b3 (by omega) (by rcases b5 with q | q <;> rw [q] <;> simp)
  have k2 := endK_two hf (c := c) (e := e) hc (by omega) u1 u2 hn.e1 hn.e2 u3 u4 (by rcases u5 with q | q <;> rw [q] <;> simp)
  have ask := sz_ask2 hf hn
  obtain ⟨E0, hE0⟩ : ∃ E0, E0 = endP (lsz f c e) (lsz f (blw f c e).1 (blw f c e).2) := ⟨_, rfl⟩
  obtain ⟨E1, hE1⟩ : ∃ E1, E1 = endP (lsz f c e) (lsz f (uN f c e).1 (uN f c e).2) := ⟨_, rfl⟩
  obtain ⟨N0, hN0⟩ : ∃ N0, N0 = lsz f c e := ⟨_, rfl⟩
  rw [← hE0] at k1
  rw [← hE1] at k2
  rw [← hN0] at k0
  refine seq_cut tbm_law_decimal_near (fun env st => env = [some (.gm 0), some (.d (fmD f)), some (.d (.int way)), some (.d (vlD (.num s c e))), some (.d (.tuple [dF E0, dF E1, .bool (decide (c % 2 = 0))])), none, none, none, none, none, none, none, none] ∧ st = ⟨x :: gs, []⟩) ?_ ?_
  · walk_at "w"
    refine ⟨f, s, c, e, rfl, ⟨hf, hn, hc⟩, ?_⟩
    rw [← hE0, ← hE1]
    walk_at "w"
    exact ⟨rfl, rfl⟩
  rintro _ _ ⟨rfl, rfl⟩
  refine seq_cut tbm_law_decimal_near (fun env st => ∃ n d x, env = [some (.gm 0), some (.d (fmD f)), some (.d (.int way)), some (.d (vlD (.num s c e))), some (.d (.tuple [dF E0, dF E1, .bool (decide (c % 2 = 0))])), none, none, some (.d (.int n)), some (.d (.int d)), none, none, none, none] ∧ st = ⟨x :: gs, []⟩ ∧ EndK n d ∧ BagAt (C + 10) x) ?_ ?_
  · walk_at "w"
    refine ⟨f, c, e, rfl, ask, ?_⟩
    rw [← hN0]
    walk_at "w"
    refine ⟨C + 9, ⟨hb, by omega, by simp, by show (4 : Nat) ≤ 1000000; decide⟩, fun y x1 hy hb1 => ?_⟩
    obtain ⟨n, d, rfl, hk⟩ : ∃ n d : Int, y = .tuple [.int n, .int d] ∧ EndK n d := by
      have hy : y ∈ [dF N0, dF E0, dF E1, dF E1] := hy
      simp only [List.mem_cons, List.not_mem_nil, or_false] at hy
      rcases hy with rfl | rfl | rfl | rfl
      · exact ⟨_, _, rfl, k0⟩
      · exact ⟨_, _, rfl, k1⟩
      · exact ⟨_, _, rfl, k2⟩
      · exact ⟨_, _, rfl, k2⟩
    clear hy
    walk_at "w"
    exact ⟨rfl, n, d, x1, rfl, rfl, hk, hb1⟩
  clear hb k0 k1 k2 hE0 hE1 hN0
  rintro _ _ ⟨n, d, x, rfl, rfl, kk, hb⟩
  refine seq_cut tbm_law_decimal_near (fun env st => ∃ many x, env = [some (.gm 0), some (.d (fmD f)), some (.d (.int way)), some (.d (vlD (.num s c e))), some (.d (.tuple [dF E0, dF E1, .bool (decide (c % 2 = 0))])), some (.d (.int ((many : Nat) : Int))), none, some (.d (.int n)), some (.d (.int d)), none, none, none, none] ∧ st = ⟨x :: gs, []⟩ ∧ (1 ≤ many ∧ many ≤ 60) ∧ BagAt (C + 11) x) ?_ ?_
  · walk_at "w"
    refine ⟨C + 10, ⟨hb, by omega, by simp, by show (7 : Nat) ≤ 1000000; decide⟩, fun y x1 hy hb1 => ?_⟩
    obtain ⟨many, rfl, m1, m2⟩ : ∃ many : Nat, y = .int (many : Nat) ∧ 1 ≤ many ∧ many ≤ 60 := by
      simp only [List.mem_cons, List.not_mem_nil, or_false] at hy
      rcases hy with rfl | rfl | rfl | rfl | rfl | rfl | rfl
      · exact ⟨1, rfl, by decide, by decide⟩
      · exact ⟨2, rfl, by decide, by decide⟩
      · exact ⟨3, rfl, by decide, by decide⟩
      · exact ⟨9, rfl, by decide, by decide⟩
      · exact ⟨20, rfl, by decide, by decide⟩
      · exact ⟨40, rfl, by decide, by decide⟩
      · exact ⟨60, rfl, by decide, by decide⟩
    clear hy
    walk_at "w"
    exact ⟨many, x1, rfl, rfl, ⟨m1, m2⟩, hb1⟩
  clear hb
  rintro _ _ ⟨many, x, rfl, rfl, ⟨m1, m2⟩, hb⟩
  have n1 := kk.n1
  have d1 := kk.d1
  have ddv : d ≠ 0 ∧ d.natAbs.log2 < 9000 := kk.bd.divOk (by omega) (by decide)
  refine seq_cut tbm_law_decimal_near (fun env st => env = [some (.gm 0), some (.d (fmD f)), some (.d (.int way)), some (.d (vlD (.num s c e))), some (.d (.tuple [dF E0, dF E1, .bool (decide (c % 2 = 0))])), some (.d (.int ((many : Nat) : Int))), none, some (.d (.int n)), some (.d (.int d)), none, none, none, none] ∧ st = ⟨x :: gs, []⟩) ?_ ?_
  · have tens : ∀ m : Nat, (∃ a b, DivT d a b ∧ m = max a b ∧ m ≤ 1200) → semS tb_law_decimal_near (.seq (.asg (.var 10) (.bin .fdiv (.bin .mul (.var 7) (.call 6 (.cons (.cst (.int 10)) (.cons (.var 9) .nil)))) (.var 8))) (.seq (.ret (.tup (.cons (.ixc (.var 3) 1) (.cons (.blt .max2 0 (.cons (.cst (.int 0)) (.cons (.bin .add (.bin .mul (.var 10) (.cst (.int 10))) (.call 1 (.cons (.var 0) (.cons (.lst 0 (.cons (.cst (.int 0)) (.cons (.cst (.int 0)) (.cons (.cst (.int 1)) (.cons (.neg (.cst (.int 1))) .nil))))) .nil)))) .nil))) (.cons (.bin .sub (.neg (.var 9)) (.cst (.int 1))) .nil))))) .skip)) [some (.gm 0), some (.d (fmD f)), some (.d (.int way)), some (.d (vlD (.num s c e))), some (.d (.tuple [dF E0, dF E1, .bool (decide (c % 2 = 0))])), some (.d (.int ((many : Nat) : Int))), none, some (.d (.int n)), some (.d (.int d)), some (.d (.int ((m : Nat) : Int))), none, none, none] ⟨x :: gs, []⟩ { nx := fun env st => env = [some (.gm 0), some (.d (fmD f)), some (.d (.int way)), some (.d (vlD (.num s c e))), some (.d (.tuple [dF E0, dF E1, .bool (decide (c % 2 = 0))])), some (.d (.int ((many : Nat) : Int))), none, some (.d (.int n)), some (.d (.int d)), none, none, none, none] ∧ st = ⟨x :: gs, []⟩, rt := fun ev st => outE ev st fun v => Q v st.g, bk := fun _ _ => False, ct := fun _ _ => False } := fun m hm => by
      obtain ⟨a, b, dt, hmx, m12⟩ := hm
      have bt : Bd 4 (10 : Int) := by unfold Bd; decide
      have bP : Bd 5000 ((10 : Int) ^ m) := (bt.pow m).up (by omega)
      have mk : MulOk n (10 ^ m) := kk.bn.mulOk bP (by decide)
      obtain ⟨q, r, f1, e1, r0, r1⟩ := fdiv_parts (n := n * 10 ^ m) (show 0 < d by omega)
      have t0 := powI_pos ten2 m
      have N0 : 0 ≤ n * 10 ^ m := Int.mul_nonneg (by omega) (by omega)
      have q0 : 0 ≤ q := by
        rw [← f1, Int.fdiv_eq_ediv_of_nonneg _ (by omega)]
        exact Int.ediv_nonneg N0 (by omega)
      have bq := tens_bound kk dt hmx q0 (by omega) m12
      have mq : MulOk q 10 := bq.mulOk bt (by decide)
      walk_at "w"
      refine And.intro ⟨4, bt, by omega, by omega⟩ ?_
      rw [show (((m : Nat) : Int)).toNat = m from rfl]
      walk_at "w"
      refine And.intro mk ?_
      walk_at "w"
      refine And.intro ddv ?_
      rw [f1]
      walk_at "w"
      refine And.intro mq ?_
      walk_at "w"
      refine ⟨C + 11, ⟨hb, by omega, by simp, by show (4 : Nat) ≤ 1000000; decide⟩, fun y x1 hy hb1 => ?_⟩
      obtain ⟨z, rfl, z0, z1⟩ : ∃ z : Int, y = .int z ∧ -1 ≤ z ∧ z ≤ 1 := by
        simp only [List.mem_cons, List.not_mem_nil, or_false] at hy
        rcases hy with rfl | rfl | rfl | rfl <;> exact ⟨_, rfl, by decide, by decide⟩
      clear hy
      walk_at "w"
      have b10 : Bd 5064 (q * 10) := bq.mul bt
      have bz : Bd 2 (1 : Int) := by unfold Bd; decide
      have bs : Bd 5065 (q * 10 + 1) := (b10.add bz).up (by decide)
      have bc : Bd 5070 (max 0 (q * 10 + z)) := (bs.of_natAbs (by omega)).up (by decide)
      refine h s (max 0 (q * 10 + z)) (-((m : Nat) : Int) - 1) x1 ⟨hn.s, by omega, bc, .inr ⟨by omega, dig1530 bc (by omega)⟩, by omega⟩ (hb1.up (by omega))
    walk_at "w"
    refine And.intro (fun z => ?_) (fun z => ?_)
    · walk_at "w"
      refine ⟨d, rfl, d1, fun r hr => ?_⟩
      cases r with
      | none =>
        walk_at "w"
        refine And.intro (fun z => nomatch z) (fun _ => ?_)
        exact ⟨rfl, rfl⟩
      | some m =>
        walk_at "w"
        refine And.intro (fun _ => ?_) (fun z => nomatch z)
        walk_at "w"
        refine ⟨d, rfl, d1, fun r' hr' => ?_⟩
        obtain ⟨a, b, q1, q2, q3⟩ := hr.1 m rfl
        obtain ⟨m', rfl⟩ := hr'.2 ⟨a, b, q1, by omega⟩
        exact tens m' (hr'.1 m' rfl)
    · walk_at "w"
      refine And.intro (fun z => nomatch z) (fun _ => ?_)
      exact ⟨rfl, rfl⟩
  rintro _ _ ⟨rfl, rfl⟩
  have dg := kk.dig
  refine seq_cut tbm_law_decimal_near (fun env st => ∃ t : Int, env = [some (.gm 0), some (.d (fmD f)), some (.d (.int way)), some (.d (vlD (.num s c e))), some (.d (.tuple [dF E0, dF E1, .bool (decide (c % 2 = 0))])), some (.d (.int ((many : Nat) : Int))), some (.d (.int (t - many))), some (.d (.int n)), some (.d (.int d)), none, none, none, none] ∧ st = ⟨x :: gs, []⟩ ∧ TopD (wo (n, d)) t ∧ (t - many).natAbs ≤ 1700) ?_ ?_
  · walk_at "w"
    refine ⟨n, d, rfl, ⟨n1, d1, kk.bn.up (by decide), kk.bd.up (by decide), by omega⟩, fun t ht t1 t2 => ?_⟩
    walk_at "w"
    exact ⟨t, rfl, rfl, ht, by omega⟩
  rintro _ _ ⟨t, rfl, rfl, ht, tl⟩
  obtain ⟨E, hE⟩ : ∃ E, E = t - many := ⟨_, rfl⟩
  rw [← hE] at tl ⊢
  obtain ⟨p1, p2, p3', p4, po⟩ := ten_pow (e := E) (by omega)
  obtain ⟨P, hP⟩ : ∃ P, P = powP 10 E := ⟨_, rfl⟩
  have w := sz_wo (n := n) (E := E) d1
  unfold szN szD at w
  rw [← hP] at p1 p2 p3' p4 po w
  refine seq_cut tbm_law_decimal_near (fun env st => env = [some (.gm 0), some (.d (fmD f)), some (.d (.int way)), some (.d (vlD (.num s c e))), some (.d (.tuple [dF E0, dF E1, .bool (decide (c % 2 = 0))])), some (.d (.int ((many : Nat) : Int))), some (.d (.int E)), some (.d (.int n)), some (.d (.int d)), none, none, some (.d (.int P.1)), some (.d (.int P.2))] ∧ st = ⟨x :: gs, []⟩) ?_ ?_
  · walk_at "w"
    refine ⟨10, E, rfl, ⟨by decide, by decide, by omega, by omega⟩, ?_⟩
    rw [← hP]
    walk_at "w"
    exact ⟨rfl, rfl, rfl⟩
  rintro _ _ ⟨rfl, rfl⟩
  have D0 : 0 < d * P.1 := Int.mul_pos (by omega) (by omega)
  have N0 : 0 ≤ n * P.2 := Int.mul_nonneg (by omega) (by omega)
  have mk1 : MulOk n P.2 := kk.bn.mulOk p2 (by decide)
  have mk2 : MulOk d P.1 := kk.bd.mulOk p1 (by decide)
  obtain ⟨q, r, f1, e1, r0, r1⟩ := fdiv_parts (n := n * P.2) D0
  have q0 : 0 ≤ q := by
    rw [← f1, Int.fdiv_eq_ediv_of_nonneg _ (by omega)]
    exact Int.ediv_nonneg N0 (by omega)
  have qm : q < 10 ^ many := by
    have p0 := bp_pos ten2 E
    have e2 : bp 10 t = (((10 : Int) ^ many : Int) : Rat) * bp 10 E := by
      have := bp_up ten2 E many
      rw [show E + ((many : Nat) : Int) = t by omega] at this
      exact this
    have W : wo (n, d) = wo (n * P.2, d * P.1) * bp 10 E := by
      rw [w, Rat.div_def]
      have := Rat.inv_mul_cancel _ (show bp 10 E ≠ 0 by intro y; rw [y] at p0; exact absurd p0 (by decide))
      grind
    have t2 := ht.2
    rw [e2, W] at t2
    have k2 := (Rat.mul_lt_mul_right p0).mp t2
    have i2 := (wo_gt ten2 (n := n * P.2) D0 ((10 : Int) ^ many) 0).mp (by rw [bp_zero ten2, Rat.mul_one]; exact k2)
    simp only [Int.max_self, Int.neg_zero, Int.toNat_zero, Int.pow_zero, Int.mul_one] at i2
    apply Classical.byContradiction
    intro y
    have := Int.mul_le_mul_of_nonneg_right (show (10 : Int) ^ many ≤ q by omega) (show 0 ≤ d * P.1 by omega)
    omega
  have dv : d * P.1 ≠ 0 ∧ (d * P.1).natAbs.log2 < 9000 := by
    refine ⟨by omega, ?_⟩
    by_cases z : P.1 = 1
    · rw [z, Int.mul_one]
      exact ddv.2
    · -- a size of one at least: a short divisor
      have E1 : 1 ≤ E := by
        apply Classical.byContradiction
        intro y
        apply z
        rw [hP, powP_le (by omega)]
      have dn : d ≤ n := by
        have a : bp 10 0 ≤ wo (n, d) := Rat.le_trans (bp_mono ten2 (by omega)) ht.1
        have i := (wo_ge ten2 (n := n) (d := d) (by omega) 1 0).mp (by simpa using a)
        simpa using i
      have ds : Bd 1310 d := by
        rcases kk.sm with ⟨d2, _⟩ | sm
        · exact (Bd.lit64 d (by omega)).up (by decide)
        · have nl : n ≤ 2 ^ 1300 := by
            have := Int.mul_le_mul_of_nonneg_left dn (show (0 : Int) ≤ 2 ^ 1300 from Int.le_of_lt (powI_pos (by decide) 1300))
            exact Int.le_of_mul_le_mul_right (Int.le_trans sm this) (by omega)
          have e9 : ((2 ^ 1300 : Nat) : Int) = (2 : Int) ^ 1300 := by rw [Int.natCast_pow]; rfl
          show d.natAbs < 2 ^ 1310
          have l : d.natAbs ≤ 2 ^ 1300 := by omega
          exact Nat.lt_of_le_of_lt l (Nat.pow_lt_pow_right (by decide) (by decide))
      have bP1 : Bd 7000 P.1 := by
        rw [hP, powP_ge (by omega)]
        exact ((show Bd 4 (10 : Int) by unfold Bd; decide).pow _).up (by omega)
      have := (ds.mul bP1).log
      omega
  walk_at "w"
  refine And.intro mk1 ?_
  walk_at "w"
  refine And.intro mk2 ?_
  walk_at "w"
  refine And.intro dv ?_
  rw [f1]
  walk_at "w"
  refine ⟨C + 11, ⟨hb, by omega, by decide, (Bd.lit64 2 (by decide)).up (by decide)⟩, fun v x1 v0 v1 hb1 => ?_⟩
  walk_at "w"
  have m60 := pow_le_pow (b := 10) (by decide) m2
  have ql : q + v ≤ 10 ^ 61 := by
    have : (10 : Int) ^ 60 + 1 ≤ 10 ^ 61 := by decide +kernel
    omega
  have bq : Bd 250 (q + v) := (ten_tight 61).of_natAbs (by have : (0 : Int) < 10 ^ 61 := powI_pos ten2 61; omega) |>.up (by decide)
  exact h s (q + v) E x1 ⟨hn.s, by omega, bq.up (by decide), room_small (by omega) (Int.lt_of_le_of_lt ql (by decide +kernel)) (by omega), by omega⟩ (hb1.up (by omega))
/-! _law_rank -/
def b_law_rank : IS := .seq (.asg (.var 2) (.bin .sub (.cst (.int 1)) (.bin .mul (.cst (.int 2)) (.ixc (.var 1) 1)))) (.seq (.ifs (.cmp .eq (.ixc (.var 1) 0) (.cst (.str (Str.ofString "inf")))) (.seq (.ret (.tup (.cons (.bin .mul (.var 2) (.cst (.int 2))) (.cons (.cst (.int 0)) (.cons (.cst (.int 0)) .nil))))) .skip) (.skip)) (.seq (.ret (.tup (.cons (.ife (.cmp .eq (.ixc (.var 1) 2) (.cst (.int 0))) (.cst (.int 0)) (.var 2)) (.cons (.ife (.cmp .ne (.ixc (.var 1) 2) (.cst (.int 0))) (.bin .mul (.var 2) (.ixc (.var 1) 3)) (.cst (.int 0))) (.cons (.bin .mul (.var 2) (.ixc (.var 1) 2)) .nil))))) .skip))
def tb_law_rank : Tb := ⟨[], []⟩
theorem tbm_law_rank : tb_law_rank.Mono := Tb.mono_of fun q hq => by
  simp only [tb_law_rank, List.mem_cons, List.not_mem_nil, or_false] at hq
def rk3D : Vl → D
  | .inf s => .tuple [.int ((1 - 2 * s) * 2), .int 0, .int 0]
  | .num s c e => .tuple [.int (if c = 0 then 0 else 1 - 2 * s), .int (if c = 0 then 0 else (1 - 2 * s) * e), .int ((1 - 2 * s) * c)]
  | .nan => .none
def VokD (f : Fm) (v : Vl) : Prop := (∃ s, (s = 0 ∨ s = 1) ∧ v = .inf s) ∨ ∃ s c e, v = .num s c e ∧ NumOk f s c e
def sp_law_rank : Sem := fun vs g Q => ∃ f v, vs = [.d (fmD f), .d (vlD v)] ∧ (FmD f ∧ VokD f v) ∧ Q (.d (rk3D v)) g
theorem mono_law_rank : SemMono sp_law_rank := fun vs g Q Q' h ⟨f, v, e, a, q⟩ => ⟨f, v, e, a, h _ _ q⟩
theorem pure_law_rank : ∀ vs g Q, sp_law_rank vs g Q → semF tb_law_rank 3 b_law_rank vs g Q := by
  rintro _ g Q ⟨f, v, rfl, ⟨hf, hv⟩, h⟩
  have b2 : Bd 2 (2 : Int) := by unfold Bd; decide
  have b1 : Bd 2 (1 : Int) := by unfold Bd; decide
  rcases hv with ⟨s, hs, rfl⟩ | ⟨s, c, e, rfl, hn⟩
  · have bs : Bd 2 s := by unfold Bd; omega
    walk_at "w"
    refine And.intro (b2.mulOk bs (by decide)) ?_
    walk_at "w"
    refine And.intro (.inl rfl) ?_
    rw [eqv_str]
    refine And.intro (fun _ => ?_) (fun z => absurd z (by decide))
    walk_at "w"
    refine And.intro (((b1.sub (b2.mul bs)).up (show _ ≤ 64 by decide)).mulOk b2 (by decide)) ?_
    exact h
  · have hs := hn.s
    have bs : Bd 2 s := by unfold Bd; omega
    have e1 := hn.e1
    have e2 := hn.e2
    have fl := hf.l
    have fh := hf.h
    have c0 := hn.c0
    have c1 : c < f.T := hn.c1
    have bc : Bd 640 c := hf.bp.of_natAbs (by show c.natAbs ≤ f.T.natAbs; omega)
    have be : Bd 64 e := Bd.lit64 e (by omega)
    have sb : Bd 64 (1 - 2 * s) := Bd.lit64 _ (by omega)
    walk_at "w"
    refine And.intro (b2.mulOk bs (by decide)) ?_
    walk_at "w"
    refine And.intro (.inl rfl) ?_
    rw [eqv_str]
    refine And.intro (fun z => absurd z (by decide)) (fun _ => ?_)
    walk_at "w"
    refine And.intro (.inl rfl) ?_
    rw [eqv_int]
    have h : Q (.d (.tuple [.int (if c = 0 then 0 else 1 - 2 * s), .int (if c = 0 then 0 else (1 - 2 * s) * e), .int ((1 - 2 * s) * c)])) g := h
    refine And.intro (fun z => ?_) (fun z => ?_)
    · have z := of_decide_eq_true z
      rw [if_pos z, if_pos z] at h
      walk_at "w"
      refine And.intro (.inl rfl) ?_
      rw [eqv_int, decide_eq_true z]
      refine And.intro (fun z => nomatch z) (fun _ => ?_)
      walk_at "w"
      refine And.intro (sb.mulOk bc (by decide)) ?_
      exact h
    · have z := of_decide_eq_false z
      rw [if_neg z, if_neg z] at h
      walk_at "w"
      refine And.intro (.inl rfl) ?_
      rw [eqv_int, decide_eq_false z]
      refine And.intro (fun _ => ?_) (fun z => nomatch z)
      walk_at "w"
      refine And.intro (sb.mulOk be (by decide)) ?_
      walk_at "w"
      refine And.intro (sb.mulOk bc (by decide)) ?_
      exact h
/-! _law_opposite -/
def b_law_opposite : IS := .seq (.asg (.var 1) (.ixc (.var 0) 0)) (.seq (.ret (.tup (.cons (.bin .add (.bin .add (.sl 0 (.var 1) (.nil) (.cst (.int 1))) (.tup (.cons (.bin .sub (.cst (.int 1)) (.ixc (.var 1) 1)) .nil))) (.sl 0 (.var 1) (.cst (.int 2)) (.nil))) (.cons (.ixc (.var 0) 1) .nil)))) .skip)
def tb_law_opposite : Tb := ⟨[], []⟩
theorem tbm_law_opposite : tb_law_opposite.Mono := Tb.mono_of fun q hq => by
  simp only [tb_law_opposite, List.mem_cons, List.not_mem_nil, or_false] at hq
def sp_law_opposite : Sem := fun vs g Q => ∃ v G, vs = [.d (.tuple [vlD v, G])] ∧ (v ≠ .nan) ∧ Q (.d (.tuple [vlD (oppV v), G])) g
theorem mono_law_opposite : SemMono sp_law_opposite := fun vs g Q Q' h ⟨v, G, e, a, q⟩ => ⟨v, G, e, a, h _ _ q⟩
theorem pure_law_opposite : ∀ vs g Q, sp_law_opposite vs g Q → semF tb_law_opposite 2 b_law_opposite vs g Q := by
  rintro _ g Q ⟨v, G, rfl, hv, h⟩
  cases v with
  | nan => exact absurd rfl hv
  | inf s =>
    walk_at "vi"
    all_goals first | exact h | exact Nat.le_of_ble_eq_true rfl
  | num s c e =>
    walk_at "vi"
    all_goals first | exact h | exact Nat.le_of_ble_eq_true rfl
/-! _law_row -/
def b_law_row : IS := .seq (.asg (.tup (.cons (.var 3) (.cons (.var 4) (.cons (.var 5) .nil)))) (.call 0 (.cons (.var 0) (.cons (.var 1) .nil)))) (.seq (.ifs (.oo (.cmp .gt (.var 5) (.cst (.int 3000))) (.oo (.cmp .lt (.var 5) (.neg (.cst (.int 3000)))) (.cmp .eq (.var 4) (.cst (.int 0))))) (.seq (.asg (.tup (.cons (.var 3) (.cons (.var 4) (.cons (.var 5) .nil)))) (.tup (.cons (.cst (.int 0)) (.cons (.bin .add (.cst (.int 1)) (.call 1 (.cons (.var 0) (.cons (.cst (.int 99)) .nil)))) (.cons (.neg (.cst (.int 1))) .nil))))) .skip) (.skip)) (.seq (.asg (.var 2) (.call 2 (.cons (.var 0) (.cons (.lst 0 (.cons (.cst (.int 1)) (.cons (.cst (.int 1)) (.cons (.cst (.int 7)) .nil)))) .nil)))) (.seq (.ret (.cmpr 0 [6] (.var 6) (.ife (.cmp .eq (.var 3) (.cst (.int 1))) (.tup (.cons (.cst (.int 3)) (.cons (.cst (.int 2)) (.cons (.cst (.int 1)) (.cons (.cst (.int 0)) (.cons (.neg (.cst (.int 1))) (.cons (.neg (.cst (.int 2))) (.cons (.neg (.cst (.int 3))) .nil)))))))) (.tup (.cons (.neg (.cst (.int 3))) (.cons (.neg (.cst (.int 2))) (.cons (.neg (.cst (.int 1))) (.cons (.cst (.int 0)) (.cons (.cst (.int 1)) (.cons (.cst (.int 2)) (.cons (.cst (.int 3)) .nil))))))))) (.nil) (.tup (.cons (.var 3) (.cons (.blt .max2 0 (.cons (.cst (.int 0)) (.cons (.bin .add (.bin .mul (.var 4) (.cst (.int 10))) (.bin .mul (.var 2) (.var 6))) .nil))) (.cons (.bin .sub (.var 5) (.cst (.int 1))) .nil)))))) .skip)))
def tb_law_row : Tb := ⟨[((Str.ofString "_law_decimal_near"), 2, sp_law_decimal_near), ((Str.ofString "_law_take"), 2, sp_law_take), ((Str.ofString "_law_some"), 2, sp_law_some)], []⟩
theorem tbm_law_row : tb_law_row.Mono := Tb.mono_of fun q hq => by
  simp only [tb_law_row, List.mem_cons, List.not_mem_nil, or_false] at hq
  rcases hq with rfl | rfl | rfl
  · exact mono_law_decimal_near
  · exact mono_law_take
  · exact mono_law_some
structure RowOk (f : Fm) (s E : Int) (cs : List Int) : Prop where
  hs : s = 0 ∨ s = 1
  len : cs.length = 7
  ok : ∀ c ∈ cs, 0 ≤ c ∧ Bd 5100 c ∧ RoomC f c E
  el : E.natAbs ≤ 3001
  up : s = 0 → cs.Pairwise (· ≤ ·)
  dn : s = 1 → cs.Pairwise (· ≥ ·)
def rowC (c t : Int) (ks : List Int) : List Int := ks.map fun k => max 0 (c * 10 + t * k)
def sp_law_row : Sem := fun vs g Q => ∃ f xs gs, vs = [.gm 0, .d (fmD f)] ∧ g = xs :: gs ∧ ∃ C, (BagAt C xs ∧ C < 2 ^ 56 ∧ FmD f) ∧ ∀ s E cs xs', RowOk f s E cs → BagAt (C + 22) xs' → Q (.d (.list (cs.map fun c => decD s c E))) (xs' :: gs)
theorem mono_law_row : SemMono sp_law_row := fun vs g Q Q' h ⟨f, xs, gs, e1, e2, C, a, q⟩ => ⟨f, xs, gs, e1, e2, C, a, fun s E cs x h1 h2 => h _ _ (q s E cs x h1 h2)⟩
theorem row_ok {f : Fm} {s c e t : Int} (hs : s = 0 ∨ s = 1) (c1 : 1 ≤ c) (bc : Bd 5070 c) (r : RoomB f c e) (el : e.natAbs ≤ 3000) (ht : t = 1 ∨ t = 7) {ks : List Int} (hk : ks = if s = 1 then [3, 2, 1, 0, -1, -2, -3] else [-3, -2, -1, 0, 1, 2, 3]) : RowOk f s (e - 1) (rowC c t ks) := by
  have kb : ∀ k ∈ ks, -3 ≤ k ∧ k ≤ 3 := by
    rw [hk]
    split <;> decide
  have kl : ks.length = 7 := by
    rw [hk]
    split <;> rfl
  have dp := dig_pos (show 0 ≤ c by omega)
  have dl := dig_lt (show 0 ≤ c by omega)
  have mul : ∀ k, -3 ≤ k → k ≤ 3 → t * k ≤ 21 ∧ -21 ≤ t * k := fun k h1 h2 => by
    rcases ht with rfl | rfl <;> omega
  have p10 := pow_le_pow (b := 10) (by decide) dp
  have e2 : (10 : Int) ^ (digN c + 2) = 10 ^ digN c * 100 := by
    rw [Int.pow_add]
    rfl
  refine ⟨hs, by unfold rowC; rw [List.length_map, kl], fun x hx => ?_, by omega, fun z => ?_, fun z => ?_⟩
  · unfold rowC at hx
    obtain ⟨k, hk', rfl⟩ := List.mem_map.mp hx
    obtain ⟨h1, h2⟩ := kb k hk'
    have m := mul k h1 h2
    have lt : max 0 (c * 10 + t * k) < 10 ^ (digN c + 2) := by
      rw [e2]
      have : (10 : Int) ^ 1 ≤ 10 ^ digN c := p10
      omega
    have dg : digN (max 0 (c * 10 + t * k)) ≤ digN c + 2 := (dig_iff (by omega) (by omega)).mpr lt
    refine ⟨by omega, ?_, ?_⟩
    · have b : Bd 5090 (c * 10 + 21) := ((bc.mul (show Bd 4 (10 : Int) by unfold Bd; decide)).add ((Bd.lit64 21 (by decide)).up (show 64 ≤ 5074 by decide))).up (by decide)
      exact (b.of_natAbs (by omega)).up (by decide)
    · unfold RoomC
      unfold RoomB at r
      omega
  · rw [hk, if_neg (by omega)]
    unfold rowC
    rcases ht with rfl | rfl <;> simp <;> omega
  · rw [hk, if_pos z]
    unfold rowC
    rcases ht with rfl | rfl <;> simp <;> omega
theorem pure_law_row : ∀ vs g Q, sp_law_row vs g Q → semF tb_law_row 7 b_law_row vs g Q := by
  rintro _ _ Q ⟨f, xs, gs, rfl, rfl, C, ⟨hb, hC, hf⟩, h⟩
  refine seq_cut tbm_law_row (fun env st => ∃ s c e x, env = [some (.gm 0), some (.d (fmD f)), none, some (.d (.int s)), some (.d (.int c)), some (.d (.int e)), none] ∧ st = ⟨x :: gs, []⟩ ∧ DecOk f s c e ∧ BagAt (C + 20) x) ?_ ?_
  · walk_at "w"
    refine ⟨f, xs, gs, rfl, rfl, C, ⟨hb, by omega, hf⟩, fun s c e x1 hd hb1 => ?_⟩
    walk_at "w"
    exact ⟨rfl, s, c, e, x1, rfl, rfl, hd, hb1⟩
  clear hb
  rintro _ _ ⟨s, c, e, x, rfl, rfl, hd, hb⟩
  refine seq_cut tbm_law_row (fun env st => ∃ s c e x, env = [some (.gm 0), some (.d (fmD f)), none, some (.d (.int s)), some (.d (.int c)), some (.d (.int e)), none] ∧ st = ⟨x :: gs, []⟩ ∧ (DecOk f s c e ∧ 1 ≤ c ∧ e.natAbs ≤ 3000) ∧ BagAt (C + 21) x) ?_ ?_
  · have other : ∀ {K : KS}, (∀ s c e x, (DecOk f s c e ∧ 1 ≤ c ∧ e.natAbs ≤ 3000) → BagAt (C + 21) x → K.nx [some (.gm 0), some (.d (fmD f)), none, some (.d (.int s)), some (.d (.int c)), some (.d (.int e)), none] ⟨x :: gs, []⟩) → semS tb_law_row (.seq (.asg (.tup (.cons (.var 3) (.cons (.var 4) (.cons (.var 5) .nil)))) (.tup (.cons (.cst (.int 0)) (.cons (.bin .add (.cst (.int 1)) (.call 1 (.cons (.var 0) (.cons (.cst (.int 99)) .nil)))) (.cons (.neg (.cst (.int 1))) .nil))))) .skip) [some (.gm 0), some (.d (fmD f)), none, some (.d (.int s)), some (.d (.int c)), some (.d (.int e)), none] ⟨x :: gs, []⟩ K := fun {K} hK => by
      walk_at "w"
      refine ⟨C + 20, ⟨hb, by omega, by decide, (Bd.lit64 99 (by decide)).up (by decide)⟩, fun v x1 v0 v1 hb1 => ?_⟩
      walk_at "w"
      have v1 : v < 99 := v1
      exact ⟨rfl, hK 0 (1 + v) (-1) x1 ⟨⟨.inl rfl, by omega, (Bd.lit64 _ (by omega)).up (by decide), room_small (by omega) (by have := pow_le_pow (b := 10) (by decide) (show 2 ≤ 100 by decide); omega) (by decide), by decide⟩, by omega, by decide⟩ hb1⟩
    walk_at "w"
    refine And.intro (fun z => ?_) (fun z1 => ?_)
    · refine And.intro (fun _ => ?_) (fun z => nomatch z)
      exact other fun s c e x h1 h2 => ⟨s, c, e, x, rfl, rfl, h1, h2⟩
    have z1 := of_decide_eq_false z1
    walk_at "w"
    refine And.intro (fun z => ?_) (fun z2 => ?_)
    · refine And.intro (fun _ => ?_) (fun z => nomatch z)
      exact other fun s c e x h1 h2 => ⟨s, c, e, x, rfl, rfl, h1, h2⟩
    have z2 := of_decide_eq_false z2
    walk_at "w"
    refine And.intro (.inl rfl) ?_
    rw [eqv_int]
    refine And.intro (fun z => ?_) (fun z3 => ?_)
    · exact other fun s c e x h1 h2 => ⟨s, c, e, x, rfl, rfl, h1, h2⟩
    have z3 := of_decide_eq_false z3
    have c0 := hd.c0
    exact ⟨s, c, e, x, rfl, rfl, ⟨hd, by omega, by omega⟩, hb.up (by omega)⟩
  clear hb hd
  rintro _ _ ⟨s, c, e, x, rfl, rfl, ⟨hd, c1, el⟩, hb⟩
  have hs := hd.s
  refine seq_cut tbm_law_row (fun env st => ∃ t x, env = [some (.gm 0), some (.d (fmD f)), some (.d (.int t)), some (.d (.int s)), some (.d (.int c)), some (.d (.int e)), none] ∧ st = ⟨x :: gs, []⟩ ∧ (t = 1 ∨ t = 7) ∧ BagAt (C + 22) x) ?_ ?_
  · walk_at "w"
    refine ⟨C + 21, ⟨hb, by omega, by simp, by simp⟩, fun y x1 hy hb1 => ?_⟩
    obtain ⟨t, rfl, ht⟩ : ∃ t : Int, y = .int t ∧ (t = 1 ∨ t = 7) := by
      simp only [List.mem_cons, List.not_mem_nil, or_false] at hy
      rcases hy with rfl | rfl | rfl
      · exact ⟨1, rfl, .inl rfl⟩
      · exact ⟨1, rfl, .inl rfl⟩
      · exact ⟨7, rfl, .inr rfl⟩
    walk_at "w"
    exact ⟨t, x1, rfl, rfl, ht, hb1⟩
  clear hb
  rintro _ _ ⟨t, x, rfl, rfl, ht, hb⟩
  have bt : Bd 3 t := by unfold Bd; rcases ht with rfl | rfl <;> decide
  have fin : ∀ ks : List Int, (∀ k ∈ ks, k.natAbs ≤ 3) → ks = (if s = 1 then [3, 2, 1, 0, -1, -2, -3] else [-3, -2, -1, 0, 1, 2, 3]) → ∀ kk : List D → Sto → Prop, (kk ((rowC c t ks).map fun c => decD s c (e - 1)) ⟨x :: gs, []⟩) → loopC (sem tb_law_row (.var 6)).a (sem tb_law_row .nil).t (sem tb_law_row (.tup (.cons (.var 3) (.cons (.blt .max2 0 (.cons (.cst (.int 0)) (.cons (.bin .add (.bin .mul (.var 4) (.cst (.int 10))) (.bin .mul (.var 2) (.var 6))) .nil))) (.cons (.bin .sub (.var 5) (.cst (.int 1))) .nil))))).e [some (.gm 0), some (.d (fmD f)), some (.d (.int t)), some (.d (.int s)), some (.d (.int c)), some (.d (.int e)), none] (ks.map PyData.int) ⟨x :: gs, []⟩ [] kk := fun ks hk _ kk hkk => by
    refine loopC_inv tbm_law_row (fun i st acc => st = ⟨x :: gs, []⟩ ∧ acc = ((ks.take i).map fun k => decD s (max 0 (c * 10 + t * k)) (e - 1))) ?_ ?_ ⟨rfl, rfl⟩
    · rintro i y _ _ hy ⟨rfl, rfl⟩
      rw [List.getElem?_map] at hy
      obtain ⟨k, hk', rfl⟩ := Option.map_eq_some_iff.mp hy
      have kb := hk k (List.mem_of_getElem? hk')
      have bk : Bd 64 k := Bd.lit64 k (by omega)
      have tk : ks.take (i + 1) = ks.take i ++ [k] := by
        rw [List.take_add_one, hk']
        rfl
      walk_at "w"
      refine And.intro (fun _ => ?_) (fun z => nomatch z)
      walk_at "w"
      refine And.intro (hd.bc.mulOk (Bd.lit64 10 (by decide)) (by decide)) ?_
      walk_at "w"
      refine And.intro (bt.mulOk bk (by decide)) ?_
      walk_at "w"
      refine ⟨rfl, ?_⟩
      rw [tk, List.map_append]
      rfl
    · rintro _ _ ⟨rfl, rfl⟩
      rw [List.length_map, List.take_length]
      unfold rowC at hkk
      rw [List.map_map] at hkk
      exact hkk
  walk_at "w"
  refine And.intro (.inl rfl) ?_
  rw [eqv_int]
  refine And.intro (fun z => ?_) (fun z => ?_)
  · have z := of_decide_eq_true z
    walk_at "w"
    refine And.intro (by decide) ?_
    refine fin [3, 2, 1, 0, -1, -2, -3] (by decide) (by rw [if_pos z]) _ ?_
    exact h s (e - 1) _ x (row_ok hs c1 hd.bc hd.r el ht (by rw [if_pos z])) hb
  · have z := of_decide_eq_false z
    walk_at "w"
    refine And.intro (by decide) ?_
    refine fin [-3, -2, -1, 0, 1, 2, 3] (by decide) (by rw [if_neg z]) _ ?_
    exact h s (e - 1) _ x (row_ok hs c1 hd.bc hd.r el ht (by rw [if_neg z])) hb
/-! law -/
def b_law : IS := .seq (.asg (.var 1) (.call 0 (.cons (.var 0) .nil))) (.seq (.asg (.var 2) (.tup (.cons (.cst (.str (Str.ofString "down"))) (.cons (.cst (.str (Str.ofString "up"))) (.cons (.cst (.str (Str.ofString "even"))) (.cons (.cst (.str (Str.ofString "away"))) (.cons (.cst (.str (Str.ofString "zero"))) .nil))))))) (.seq (.asg (.var 3) (.tup (.cons (.cst (.str (Str.ofString "up"))) (.cons (.cst (.str (Str.ofString "down"))) (.cons (.cst (.str (Str.ofString "even"))) (.cons (.cst (.str (Str.ofString "away"))) (.cons (.cst (.str (Str.ofString "zero"))) .nil))))))) (.seq (.fr (.var 4) (.rng (.cons (.cst (.int 4)) .nil)) (.seq (.asg (.var 5) (.call 1 (.cons (.var 1) .nil))) (.seq (.asg (.var 6) (.call 2 (.cons (.var 1) (.cons (.var 5) .nil)))) (.seq (.asg (.var 7) (.cmpr 0 [14] (.var 14) (.var 2) (.nil) (.cmpr 0 [11] (.var 11) (.var 6) (.nil) (.call 3 (.cons (.var 5) (.cons (.var 14) (.cons (.var 11) .nil))))))) (.seq (.fr (.var 8) (.var 7) (.seq (.asg (.var 9) (.cmpr 0 [11] (.var 11) (.var 8) (.nil) (.call 4 (.cons (.var 5) (.cons (.ixc (.var 11) 0) .nil))))) (.seq (.ifs (.cmp .ne (.var 9) (.srd 0 (.var 9))) (.seq (.ret (.cst (.bool false))) .skip) (.skip)) .skip))) (.seq (.fr (.tup (.cons (.var 10) (.cons (.var 11) .nil))) (.enm (.cons (.var 6) .nil)) (.seq (.asg (.var 12) (.tup (.cons (.bin .sub (.cst (.int 1)) (.ixc (.var 11) 0)) (.cons (.ixc (.var 11) 1) (.cons (.ixc (.var 11) 2) .nil))))) (.seq (.asg (.var 13) (.cmpr 0 [8] (.var 8) (.var 7) (.nil) (.ix (.var 8) (.var 10)))) (.seq (.asg (.tup (.cons (.var 15) (.cons (.var 16) .nil))) (.tup (.cons (.ixc (.var 13) 0) (.cons (.ixc (.var 13) 1) .nil)))) (.seq (.ifs (.cmp .ne (.cmpr 0 [14] (.var 14) (.var 3) (.nil) (.call 3 (.cons (.var 5) (.cons (.var 14) (.cons (.var 12) .nil))))) (.cmpr 0 [8] (.var 8) (.var 13) (.nil) (.call 5 (.cons (.var 8) .nil)))) (.seq (.ret (.cst (.bool false))) .skip) (.skip)) (.seq (.ifs (.cmp .ne (.cmpr 0 [8] (.var 8) (.var 13) (.cmp .notin (.ixc (.var 8) 0) (.tup (.cons (.ixc (.var 15) 0) (.cons (.ixc (.var 16) 0) .nil)))) (.var 8)) (.lst 0 (.nil))) (.seq (.ret (.cst (.bool false))) .skip) (.skip)) (.seq (.ifs (.an (.cmp .eq (.ixc (.var 15) 0) (.ixc (.var 16) 0)) (.cmp .ne (.cmpr 0 [8] (.var 8) (.var 13) (.cmp .ne (.var 8) (.var 15)) (.var 8)) (.lst 0 (.nil)))) (.seq (.ret (.cst (.bool false))) .skip) (.skip)) (.seq (.ifs (.cmp .ne (.cmp .eq (.ixc (.var 15) 1) (.tup (.nil))) (.an (.cmp .eq (.ixc (.var 15) 0) (.ixc (.var 16) 0)) (.an (.cmp .eq (.ixc (.ixc (.var 15) 0) 0) (.cst (.str (Str.ofString "num")))) (.cmp .notin (.cst (.str (Str.ofString "over"))) (.ixc (.var 15) 1))))) (.seq (.ret (.cst (.bool false))) .skip) (.skip)) .skip)))))))) .skip)))))) (.seq (.ret (.cst (.bool true))) .skip))))
def tb_law : Tb := ⟨[((Str.ofString "_law_bag"), 1, sp_law_bag), ((Str.ofString "_law_format"), 1, sp_law_format), ((Str.ofString "_law_row"), 2, sp_law_row), ((Str.ofString "read_decimal"), 3, sp_read_decimal), ((Str.ofString "_law_rank"), 2, sp_law_rank), ((Str.ofString "_law_opposite"), 1, sp_law_opposite)], []⟩
theorem tbm_law : tb_law.Mono := Tb.mono_of fun q hq => by
  simp only [tb_law, List.mem_cons, List.not_mem_nil, or_false] at hq
  rcases hq with rfl | rfl | rfl | rfl | rfl | rfl
  · exact mono_law_bag
  · exact mono_law_format
  · exact mono_law_row
  · exact mono_read_decimal
  · exact mono_law_rank
  · exact mono_law_opposite
def sp_law : Sem := semF tb_law 17 b_law
theorem mono_law : SemMono sp_law := semF_mono tbm_law _ _
theorem pure_law : ∀ vs g Q, sp_law vs g Q → semF tb_law 17 b_law vs g Q := fun _ _ _ q => q
abbrev WS : List Str := ["down", "up", "even", "away", "zero"]
abbrev TS : List Str := ["up", "down", "even", "away", "zero"]
theorem ts_eq : TS = WS.map turnW := by decide
theorem ws_in : ∀ w ∈ WS, w ∈ ways5 := by decide
theorem fin_flags {f : Fm} {way : Str} {s c e : Int} {sd : Option Int} : finG f way s c e sd ∈ flags4 := by
  unfold finG
  split
  · simp [flags4]
  · split
    · simp [flags4]
    · split <;> simp [flags4]
/-- the bounds of a drawn row -/
structure RowP (f : Fm) (s E : Int) (P : Int → Int × Int × Option Int) : Prop where
  hf : FmD f
  s : s = 0 ∨ s = 1
  p : PartsD f E P
theorem ovl_ok {f : Fm} {s E : Int} {P : Int → Int × Int × Option Int} (r : RowP f s E P) (way : Str) (t : Int) (ht : t = 0 ∨ t = 1) {c : Int} (h0 : 0 ≤ c) : (ovl f P way t c = .inf t ∨ ∃ c1 e1, ovl f P way t c = .num t c1 e1 ∧ NumOk f t c1 e1) := by
  unfold ovl
  by_cases z : c = 0
  · rw [if_pos z]
    have lh := r.hf.lh
    have tp := powI_pos r.hf.b2 f.p.toNat
    exact .inr ⟨0, f.lo, rfl, ⟨ht, Int.le_refl _, lh, Int.le_refl _, tp, .inl rfl⟩⟩
  · rw [if_neg z]
    rcases finV_cases r.hf (way := way) ht (r.p c (by omega)) with k | ⟨c', e', k, n⟩
    · exact .inl k
    · exact .inr ⟨c', e', k, n⟩
theorem ovl_v {f : Fm} {s E : Int} {P : Int → Int × Int × Option Int} (r : RowP f s E P) (way : Str) {t : Int} (ht : t = 0 ∨ t = 1) {c : Int} (h0 : 0 ≤ c) : VokD f (ovl f P way t c) ∧ ovl f P way t c ≠ .nan ∧ Fit 2 18000 (vlD (ovl f P way t c)) := by
  rcases ovl_ok r way t ht h0 with k | ⟨c1, e1, k, n⟩
  · rw [k]
    exact ⟨.inl ⟨t, ht, rfl⟩, (fun h => by cases h), fit_infD ht⟩
  · rw [k]
    exact ⟨.inr ⟨t, c1, e1, rfl, n⟩, (fun h => by cases h), fit_numD r.hf n⟩
theorem ofl_in {f : Fm} {P : Int → Int × Int × Option Int} (way : Str) (t c : Int) : ofl f P way t c ∈ flags4 := by
  unfold ofl
  split
  · simp [flags4]
  · exact fin_flags
theorem fit_out {f : Fm} {s E : Int} {P : Int → Int × Int × Option Int} (r : RowP f s E P) (way : Str) {t : Int} (ht : t = 0 ∨ t = 1) {c : Int} (h0 : 0 ≤ c) : Fit 3 37000 (outD f P way t c) :=
  (Fit.tup (k := 2) (w := 18000) (all_cons (ovl_v r way ht h0).2.2 (all_cons ((fit_fl (ofl_in way t c)).up (by decide) (by decide)) all_nil))).up (by decide) (by simp)
theorem eqv_vv {f : Fm} {v w : Vl} (hv : VokD f v) (hw : VokD f w) : PyData.eqv (vlD v) (vlD w) = true ↔ v = w := by
  rcases hv with ⟨s, _, rfl⟩ | ⟨s, c, e, rfl, _⟩ <;> rcases hw with ⟨t, _, rfl⟩ | ⟨t, d, x, rfl, _⟩
  · simp [vlD, PyData.eqv, PyData.eqvAll]
  · simp [vlD, PyData.eqv, PyData.eqvAll]
  · simp [vlD, PyData.eqv, PyData.eqvAll]
  · simp [vlD, PyData.eqv, PyData.eqvAll]
/-- the rank of a size with a sign -/
def trD (s : Int) (m : Int × Int × Int) : D := .tuple [.int ((1 - 2 * s) * m.1), .int ((1 - 2 * s) * m.2.1), .int ((1 - 2 * s) * m.2.2)]
theorem rk_tr {f : Fm} {s E : Int} {P : Int → Int × Int × Option Int} (r : RowP f s E P) (way : Str) {c : Int} (h0 : 0 ≤ c) : rk3D (ovl f P way s c) = trD s (mrk (ovl f P way s c)) := by
  rcases ovl_ok r way s r.s h0 with k | ⟨c1, e1, k, n⟩
  · rw [k]
    simp [rk3D, trD, mrk]
  · rw [k, mrk_num]
    by_cases z : c1 = 0
    · simp [rk3D, trD, z]
    · simp [rk3D, trD, z]
theorem lt_iii (a b c a' b' c' : Int) : PySem.W.dataLt (.tuple [.int a, .int b, .int c]) (.tuple [.int a', .int b', .int c']) = decide (a < a' ∨ (a = a' ∧ (b < b' ∨ (b = b' ∧ c < c')))) := by
  have e : PyProof.Rows.lexLt PyProof.Rows.itemOrd (PySem.W.keyToksAll []) (PySem.W.keyToksAll []) = false := PyProof.Rows.lex_irrefl _
  rw [PySem.W.dataLt_tuple, PySem.W.dataLt_cons (by simp [PySem.W.alike]), PySem.W.dataLt_cons (by simp [PySem.W.alike]), PySem.W.dataLt_cons (by simp [PySem.W.alike]), e, PySem.W.dataLt_int, PySem.W.dataLt_int, PySem.W.dataLt_int, eqv_int, eqv_int, eqv_int]
  by_cases h1 : a = a'
  · by_cases h2 : b = b'
    · by_cases h3 : c = c'
      · simp [h1, h2, h3]
      · simp [h1, h2, h3]
    · simp [h1, h2]
  · simp [h1]
theorem rk_le {f : Fm} {s E : Int} {P : Int → Int × Int × Option Int} (r : RowP f s E P) (way : Str) {c c' : Int} (h0 : 0 ≤ c) (h0' : 0 ≤ c') (h : (s = 0 ∧ c ≤ c') ∨ (s = 1 ∧ c' ≤ c)) : PySem.W.dataLe false id (rk3D (ovl f P way s c)) (rk3D (ovl f P way s c')) = true := by
  rw [rk_tr r way h0, rk_tr r way h0']
  show (!PySem.W.dataLt (trD s _) (trD s _)) = true
  unfold trD
  rw [lt_iii, Bool.not_eq_true', decide_eq_false_iff_not]
  rcases h with ⟨rfl, h⟩ | ⟨rfl, h⟩
  · have m := out_mono r.hf r.p way 0 h0 h
    generalize mrk (ovl f P way 0 c) = a at *
    generalize mrk (ovl f P way 0 c') = b at *
    unfold le3 at m
    omega
  · have m := out_mono r.hf r.p way 1 h0' h
    generalize mrk (ovl f P way 1 c) = a at *
    generalize mrk (ovl f P way 1 c') = b at *
    unfold le3 at m
    omega
theorem fit_rk {f : Fm} {s E : Int} {P : Int → Int × Int × Option Int} (r : RowP f s E P) (way : Str) {c : Int} (h0 : 0 ≤ c) : Fit 3 30000 (rk3D (ovl f P way s c)) := by
  have hf := r.hf
  have hs := r.s
  have sb : Bd 64 (1 - 2 * s) := Bd.lit64 _ (by omega)
  have b2 : Bd 64 (2 : Int) := Bd.lit64 2 (by decide)
  have go : ∀ {a b c : Int}, Bd 800 a → Bd 800 b → Bd 800 c → Fit 3 30000 (.tuple [.int a, .int b, .int c]) := fun {a b c} h1 h2 h3 =>
    (Fit.tup (k := 2) (w := 9000) (all_cons (Fit.one h1 (by decide)) (all_cons (Fit.one h2 (by decide)) (all_cons (Fit.one h3 (by decide)) all_nil)))).up (by decide) (by simp)
  have z0 : Bd 800 (0 : Int) := (Bd.lit64 0 (by decide)).up (by decide)
  rcases ovl_ok r way s r.s h0 with k | ⟨c1, e1, k, hn⟩
  · rw [k]
    exact go ((sb.mul b2).up (by decide)) z0 z0
  · rw [k]
    have x1 := hn.e1
    have x2 := hn.e2
    have fl := hf.l
    have fh := hf.h
    have c0 := hn.c0
    have cT : c1 < f.T := hn.c1
    have bc : Bd 640 c1 := hf.bp.of_natAbs (by show c1.natAbs ≤ f.T.natAbs; omega)
    have be : Bd 64 e1 := Bd.lit64 e1 (by omega)
    refine go ?_ ?_ ((sb.mul bc).up (by decide))
    · split
      · exact z0
      · exact sb.up (by decide)
    · split
      · exact z0
      · exact (sb.mul be).up (by decide)
theorem srt_self {f : Fm} {s E : Int} {P : Int → Int × Int × Option Int} (r : RowP f s E P) (way : Str) {cs : List Int} (h0 : ∀ c ∈ cs, 0 ≤ c) (up : s = 0 → cs.Pairwise (· ≤ ·)) (dn : s = 1 → cs.Pairwise (· ≥ ·)) :
    (PySem.W.AllAlike (cs.map fun c => rk3D (ovl f P way s c)) ∧ PySem.W.Sortable (cs.map fun c => rk3D (ovl f P way s c)) ∧ ∀ d ∈ (cs.map fun c => rk3D (ovl f P way s c)), d.depth ≤ 60) ∧ (cs.map fun c => rk3D (ovl f P way s c)).mergeSort (PySem.W.dataLe false id) = cs.map fun c => rk3D (ovl f P way s c) := by
  have tup : ∀ c ∈ cs, ∃ a b d : Int, rk3D (ovl f P way s c) = .tuple [.int a, .int b, .int d] := fun c hc => by
    rw [rk_tr r way (h0 c hc)]
    exact ⟨_, _, _, rfl⟩
  refine ⟨⟨fun d hd d' hd' => ?_, .inl fun d hd => ?_, fun d hd => ?_⟩, ?_⟩
  · obtain ⟨c, hc, rfl⟩ := List.mem_map.mp hd
    obtain ⟨c', hc', rfl⟩ := List.mem_map.mp hd'
    obtain ⟨a, b, x, e⟩ := tup c hc
    obtain ⟨a', b', x', e'⟩ := tup c' hc'
    rw [e, e']
    simp [PySem.W.alike, PySem.W.alikeAll]
  · obtain ⟨c, hc, rfl⟩ := List.mem_map.mp hd
    obtain ⟨a, b, x, e⟩ := tup c hc
    exact ⟨_, _, e⟩
  · obtain ⟨c, hc, rfl⟩ := List.mem_map.mp hd
    have := (fit_rk r way (h0 c hc)).dep
    omega
  · refine List.mergeSort_of_pairwise ?_
    rw [List.pairwise_map]
    rcases r.s with z | z
    · exact (up z).imp_of_mem fun {a b} ha hb h => rk_le r way (h0 a ha) (h0 b hb) (.inl ⟨z, h⟩)
    · exact (dn z).imp_of_mem fun {a b} ha hb h => rk_le r way (h0 a ha) (h0 b hb) (.inr ⟨z, h⟩)
theorem fr_one {tb : Tb} (ht : tb.Mono) {t it : IE} {b : IS} {K : KS} {env0 : En} {st0 : Sto}
    (h : (sem tb it).i env0 st0 fun xs st1 => ∃ P : Nat → En → Sto → Prop,
      (∀ i x env st, xs[i]? = some x → P i env st → (sem tb t).a (.d x) env fun env' => semS tb b env' st { nx := P (i + 1), rt := K.rt, bk := K.nx, ct := P (i + 1) }) ∧
      (∀ env st, P xs.length env st → K.nx env st) ∧ P 0 env0 st1) : semS tb (.fr t it b) env0 st0 K := by
  show (sem tb it).i env0 st0 fun xs st => loopF (sem tb t).a (semS tb b) xs env0 st K
  refine (sem_mono ht it).i _ _ _ _ ?_ h
  rintro xs st ⟨P, a, b, c⟩
  exact loopF_inv ht (K := K) P a b c
abbrev e36 (ns : List Int) (z4 z5 z6 z7 z8 z9 z10 z11 z12 z13 z14 z15 z16 : Option EV) : En := [some (.sc (ns.map PyData.int)), some (.gm 0), some (.d (.tuple (WS.map PyData.str))), some (.d (.tuple (TS.map PyData.str))), z4, z5, z6, z7, z8, z9, z10, z11, z12, z13, z14, z15, z16]
theorem eqv_nilL : PyData.eqv (.list []) (.list []) = true := by simp [PyData.eqv, PyData.eqvAll]
theorem shp_nilL : Shp (.list []) := (Fit.lst (k := 0) (w := 0) all_nil).shp (by decide)
theorem plain_law (ns : List Int) (hlen : ns.length ≤ 63) : sp_law [.sc (ns.map PyData.int)] [] fun ev _ => ev = .d (.bool true) := by
  unfold sp_law
  refine seq_cut tbm_law (fun env st => ∃ x, env = [some (.sc (ns.map PyData.int)), some (.gm 0), none, none, none, none, none, none, none, none, none, none, none, none, none, none, none] ∧ st = ⟨[x], []⟩ ∧ BagAt 0 x) ?_ ?_
  · walk_at "w"
    refine ⟨⟨ns, rfl⟩, fun bag hb => ?_⟩
    walk_at "vi"
    exact ⟨bag, rfl, rfl, hb⟩
  rintro _ _ ⟨x, rfl, rfl, hb⟩
  refine seq_cut tbm_law (fun env st => env = [some (.sc (ns.map PyData.int)), some (.gm 0), some (.d (.tuple (WS.map PyData.str))), none, none, none, none, none, none, none, none, none, none, none, none, none, none] ∧ st = ⟨[x], []⟩) ?_ ?_
  · walk_at "w"
    exact ⟨rfl, rfl⟩
  rintro _ _ ⟨rfl, rfl⟩
  refine seq_cut tbm_law (fun env st => env = e36 ns none none none none none none none none none none none none none ∧ st = ⟨[x], []⟩) ?_ ?_
  · walk_at "w"
    exact ⟨rfl, rfl⟩
  rintro _ _ ⟨rfl, rfl⟩
  refine fr_post tbm_law ?_
  walk_at "w"
  refine ⟨by decide, ?_⟩
  walk_at "w"
  refine ⟨fun i env st => ∃ z4 z5 z6 z7 z8 z9 z10 z11 z12 z13 z14 z15 z16 x, env = e36 ns z4 z5 z6 z7 z8 z9 z10 z11 z12 z13 z14 z15 z16 ∧ st = ⟨[x], []⟩ ∧ BagAt (100 * i) x, ?_, ?_, ⟨_, _, _, _, _, _, _, _, _, _, _, _, _, x, rfl, rfl, hb⟩⟩
  rotate_left
  · rintro _ _ ⟨z4, z5, z6, z7, z8, z9, z10, z11, z12, z13, z14, z15, z16, x, rfl, rfl, hb⟩
    walk_at "w"
    all_goals rfl
  clear hb
  rintro i y _ _ hy ⟨z4, z5, z6, z7, z8, z9, z10, z11, z12, z13, z14, z15, z16, x, rfl, rfl, hb⟩
  obtain ⟨hi, rfl⟩ := upto_get hy
  have hi : i < 4 := hi
  refine tgt_var ?_
  dsimp only [put, e36]
  refine seq_cut tbm_law (fun env st => ∃ f x, env = e36 ns (some (.d (.int (0 + i)))) (some (.d (fmD f))) z6 z7 z8 z9 z10 z11 z12 z13 z14 z15 z16 ∧ st = ⟨[x], []⟩ ∧ FmD f ∧ BagAt (100 * i + 2) x) ?_ ?_
  · walk_at "w"
    refine ⟨x, [], rfl, rfl, 100 * i, ⟨hb, by omega⟩, fun f x1 hf hb1 => ?_⟩
    walk_at "w"
    exact ⟨f, x1, rfl, rfl, fmD_all f hf, hb1⟩
  clear hb
  rintro _ _ ⟨f, x, rfl, rfl, hf, hb⟩
  refine seq_cut tbm_law (fun env st => ∃ s E cs x, env = e36 ns (some (.d (.int (0 + i)))) (some (.d (fmD f))) (some (.d (.list (cs.map fun c => decD s c E)))) z7 z8 z9 z10 z11 z12 z13 z14 z15 z16 ∧ st = ⟨[x], []⟩ ∧ RowOk f s E cs ∧ BagAt (100 * i + 24) x) ?_ ?_
  · walk_at "w"
    refine ⟨f, x, [], rfl, rfl, 100 * i + 2, ⟨hb, by omega, hf⟩, fun s E cs x1 hr hb1 => ?_⟩
    walk_at "w"
    exact ⟨s, E, cs, x1, rfl, rfl, hr, hb1⟩
  clear hb
  rintro _ _ ⟨s, E, cs, x, rfl, rfl, hr, hb⟩
  obtain ⟨P, hP⟩ := parts_ex hf E
  have rp : RowP f s E P := ⟨hf, hr.hs, hP⟩
  have hs := hr.hs
  have h0 : ∀ c ∈ cs, 0 ≤ c := fun c hc => (hr.ok c hc).1
  have cl := hr.len
  -- what is read of one of the row
  have pre : ∀ {w : Str} (_ : w ∈ WS) {t : Int} (_ : t = 0 ∨ t = 1) {c : Int} (_ : c ∈ cs), FmD f ∧ w ∈ ways5 ∧ (t = 0 ∨ t = 1) ∧ 0 ≤ c ∧ Bd 8900 c ∧ RoomC f c E := fun {w} hw {t} ht {c} hc => by
    obtain ⟨c0, bc, room⟩ := hr.ok c hc
    exact ⟨hf, ws_in w hw, ht, c0, bc.up (by decide), room⟩
  have out0 : ∀ (w : Str) (t : Int) {c : Int}, c = 0 → (.tuple [vlD (.num t 0 f.lo), .tuple []] : D) = outD f P w t c := fun w t {c} z => by
    unfold outD ovl ofl
    rw [if_pos z, if_pos z]
    rfl
  have tk : ∀ {i : Nat} {c : Int}, cs[i]? = some c → cs.take (i + 1) = cs.take i ++ [c] := fun {i c} h => by
    rw [List.take_add_one, h]
    rfl
  have tw : ∀ {L : List Str} {i : Nat} {w : Str}, L[i]? = some w → L.take (i + 1) = L.take i ++ [w] := fun {L i w} h => by
    rw [List.take_add_one, h]
    rfl
  refine seq_cut tbm_law (fun env st => env = e36 ns (some (.d (.int (0 + i)))) (some (.d (fmD f))) (some (.d (.list (cs.map fun c => decD s c E)))) (some (.d (.list (WS.map fun w => .list (cs.map fun c => outD f P w s c))))) z8 z9 z10 z11 z12 z13 z14 z15 z16 ∧ st = ⟨[x], []⟩) ?_ ?_
  · walk_at "w"
    refine And.intro (by simp) ?_
    refine loopC_inv tbm_law (fun j st acc => st = ⟨[x], []⟩ ∧ acc = (WS.take j).map fun w => .list (cs.map fun c => outD f P w s c)) ?_ ?_ ⟨rfl, rfl⟩
    · rintro j y _ _ hy ⟨rfl, rfl⟩
      have hy : (WS.map PyData.str)[j]? = some y := hy
      rw [List.getElem?_map] at hy
      obtain ⟨w, hw, rfl⟩ := Option.map_eq_some_iff.mp hy
      have hm : w ∈ WS := List.mem_of_getElem? hw
      walk_at "w"
      refine And.intro (fun _ => ?_) (fun z => nomatch z)
      walk_at "w"
      refine And.intro (by rw [List.length_map]; omega) ?_
      refine loopC_inv tbm_law (fun k st acc => st = ⟨[x], []⟩ ∧ acc = (cs.take k).map fun c => outD f P w s c) ?_ ?_ ⟨rfl, rfl⟩
      · rintro k y _ _ hy ⟨rfl, rfl⟩
        rw [List.getElem?_map] at hy
        obtain ⟨c, hc, rfl⟩ := Option.map_eq_some_iff.mp hy
        walk_at "w"
        refine And.intro (fun _ => ?_) (fun z => nomatch z)
        walk_at "w"
        refine ⟨f, w, s, c, E, rfl, pre hm hs (List.mem_of_getElem? hc), fun z => ?_, fun z d hd => ?_⟩
        · rw [out0 w s z]
          walk_at "w"
          refine ⟨rfl, ?_⟩
          rw [tk hc, List.map_append]
          rfl
        · rw [out_is hf hP z hd]
          walk_at "w"
          refine ⟨rfl, ?_⟩
          rw [tk hc, List.map_append]
          rfl
      · rintro _ _ ⟨rfl, rfl⟩
        walk_at "w"
        refine ⟨rfl, ?_⟩
        rw [List.length_map, List.take_length, tw hw, List.map_append]
        rfl
    · rintro _ _ ⟨rfl, rfl⟩
      walk_at "w"
      exact ⟨rfl, rfl⟩
  rintro _ _ ⟨rfl, rfl⟩
  -- the ranks ascend
  refine seq_cut tbm_law (fun env st => ∃ z8 z9, env = e36 ns (some (.d (.int (0 + i)))) (some (.d (fmD f))) (some (.d (.list (cs.map fun c => decD s c E)))) (some (.d (.list (WS.map fun w => .list (cs.map fun c => outD f P w s c))))) z8 z9 z10 z11 z12 z13 z14 z15 z16 ∧ st = ⟨[x], []⟩) ?_ ?_
  · refine fr_one tbm_law ?_
    walk_at "w"
    refine ⟨fun j env st => ∃ z8 z9, env = e36 ns (some (.d (.int (0 + i)))) (some (.d (fmD f))) (some (.d (.list (cs.map fun c => decD s c E)))) (some (.d (.list (WS.map fun w => .list (cs.map fun c => outD f P w s c))))) z8 z9 z10 z11 z12 z13 z14 z15 z16 ∧ st = ⟨[x], []⟩, ?_, ?_, ⟨z8, z9, rfl, rfl⟩⟩
    rotate_left
    · rintro _ _ ⟨z8, z9, rfl, rfl⟩
      exact ⟨z8, z9, rfl, rfl⟩
    rintro j y _ _ hy ⟨z8, z9, rfl, rfl⟩
    have hy : (WS.map fun w => PyData.list (cs.map fun c => outD f P w s c))[j]? = some y := hy
    rw [List.getElem?_map] at hy
    obtain ⟨w, hw, rfl⟩ := Option.map_eq_some_iff.mp hy
    clear hy
    refine tgt_var ?_
    dsimp only [put, e36]
    refine seq_cut tbm_law (fun env st => env = e36 ns (some (.d (.int (0 + i)))) (some (.d (fmD f))) (some (.d (.list (cs.map fun c => decD s c E)))) (some (.d (.list (WS.map fun w => .list (cs.map fun c => outD f P w s c))))) (some (.d (.list (cs.map fun c => outD f P w s c)))) (some (.d (.list (cs.map fun c => rk3D (ovl f P w s c))))) z10 z11 z12 z13 z14 z15 z16 ∧ st = ⟨[x], []⟩) ?_ ?_
    · walk_at "w"
      refine And.intro (by rw [List.length_map]; omega) ?_
      refine loopC_inv tbm_law (fun k st acc => st = ⟨[x], []⟩ ∧ acc = (cs.take k).map fun c => rk3D (ovl f P w s c)) ?_ ?_ ⟨rfl, rfl⟩
      · rintro k y _ _ hy ⟨rfl, rfl⟩
        rw [List.getElem?_map] at hy
        obtain ⟨c, hc, rfl⟩ := Option.map_eq_some_iff.mp hy
        have c0 := h0 c (List.mem_of_getElem? hc)
        walk_at "w"
        refine And.intro (fun _ => ?_) (fun z => nomatch z)
        walk_at "w"
        refine ⟨f, _, rfl, ⟨hf, (ovl_v rp w hs c0).1⟩, ?_⟩
        walk_at "w"
        refine ⟨rfl, ?_⟩
        rw [tk hc, List.map_append]
        rfl
      · rintro _ _ ⟨rfl, rfl⟩
        walk_at "w"
        refine ⟨?_, rfl⟩
        rw [List.length_map, List.take_length]
        rfl
    rintro _ _ ⟨rfl, rfl⟩
    obtain ⟨ok, self⟩ := srt_self rp w h0 hr.up hr.dn
    have shr : Shp (.list (cs.map fun c => rk3D (ovl f P w s c))) := (Fit.lst (k := 3) (w := 30000) fun d hd => by
      obtain ⟨c, hc, rfl⟩ := List.mem_map.mp hd
      exact fit_rk rp w (h0 c hc)).shp (by decide)
    walk_at "w"
    refine And.intro ok ?_
    rw [self]
    walk_at "w"
    refine And.intro (.inr ⟨shr, shr⟩) ?_
    rw [eqv_self shr]
    refine And.intro (fun z => nomatch z) (fun _ => ?_)
    exact ⟨_, _, rfl, rfl⟩
  rintro _ _ ⟨z8, z9, rfl, rfl⟩
  -- one by one
  refine fr_one tbm_law ?_
  walk_at "w"
  refine ⟨fun j env st => ∃ z10 z11 z12 z13 z14 z15 z16, env = e36 ns (some (.d (.int (0 + i)))) (some (.d (fmD f))) (some (.d (.list (cs.map fun c => decD s c E)))) (some (.d (.list (WS.map fun w => .list (cs.map fun c => outD f P w s c))))) z8 z9 z10 z11 z12 z13 z14 z15 z16 ∧ st = ⟨[x], []⟩, ?_, ?_, ⟨z10, z11, z12, z13, z14, z15, z16, rfl, rfl⟩⟩
  rotate_left
  · rintro _ _ ⟨z10, z11, z12, z13, z14, z15, z16, rfl, rfl⟩
    walk_at "w"
    exact ⟨_, _, _, _, _, _, _, _, _, _, _, _, _, x, rfl, rfl, hb.up (by omega)⟩
  clear hb
  rintro j y _ _ hy ⟨z10, z11, z12, z13, z14, z15, z16, rfl, rfl⟩
  rw [List.getElem?_mapIdx, List.getElem?_map] at hy
  obtain ⟨c, hc, rfl⟩ : ∃ c, cs[j]? = some c ∧ y = .tuple [.int (j : Nat), decD s c E] := by
    cases e : cs[j]? with
    | none => rw [e] at hy; cases hy
    | some c => rw [e] at hy; cases hy; exact ⟨c, rfl, rfl⟩
  clear hy
  have hm := List.mem_of_getElem? hc
  have c0 := h0 c hm
  have hs' : 1 - s = 0 ∨ 1 - s = 1 := by omega
  have fo := fun w => fit_out rp w hs c0
  have fo' := fun w => fit_out rp w hs' c0
  have vo := fun w => ovl_v rp w hs c0
  have vs := fun w => (vo w).2.2.shp (show 2 ≤ 64 by decide)
  walk_at "w"
  refine And.intro rfl ?_
  refine seq_cut tbm_law (fun env st => env = e36 ns (some (.d (.int (0 + i)))) (some (.d (fmD f))) (some (.d (.list (cs.map fun c => decD s c E)))) (some (.d (.list (WS.map fun w => .list (cs.map fun c => outD f P w s c))))) z8 z9 (some (.d (.int (j : Nat)))) (some (.d (decD s c E))) (some (.d (decD (1 - s) c E))) z13 z14 z15 z16 ∧ st = ⟨[x], []⟩) ?_ ?_
  · walk_at "w"
    exact ⟨rfl, rfl⟩
  rintro _ _ ⟨rfl, rfl⟩
  refine seq_cut tbm_law (fun env st => env = e36 ns (some (.d (.int (0 + i)))) (some (.d (fmD f))) (some (.d (.list (cs.map fun c => decD s c E)))) (some (.d (.list (WS.map fun w => .list (cs.map fun c => outD f P w s c))))) z8 z9 (some (.d (.int (j : Nat)))) (some (.d (decD s c E))) (some (.d (decD (1 - s) c E))) (some (.d (.list (WS.map fun w => outD f P w s c)))) z14 z15 z16 ∧ st = ⟨[x], []⟩) ?_ ?_
  · walk_at "w"
    refine And.intro (by simp) ?_
    refine loopC_inv tbm_law (fun k st acc => st = ⟨[x], []⟩ ∧ acc = (WS.take k).map fun w => outD f P w s c) ?_ ?_ ⟨rfl, rfl⟩
    · rintro k y _ _ hy ⟨rfl, rfl⟩
      have hy : (WS.map fun w => PyData.list (cs.map fun c => outD f P w s c))[k]? = some y := hy
      rw [List.getElem?_map] at hy
      obtain ⟨w, hw, rfl⟩ := Option.map_eq_some_iff.mp hy
      walk_at "w"
      refine And.intro (fun _ => ?_) (fun z => nomatch z)
      walk_at "w"
      rw [atI_nat (show ((cs.map fun c => outD f P w s c) : List D)[j]? = some (outD f P w s c) by rw [List.getElem?_map, hc]; rfl)]
      walk_at "w"
      refine ⟨rfl, ?_⟩
      rw [tw hw, List.map_append]
      rfl
    · rintro _ _ ⟨rfl, rfl⟩
      walk_at "w"
      exact ⟨rfl, rfl⟩
  rintro _ _ ⟨rfl, rfl⟩
  refine seq_cut tbm_law (fun env st => env = e36 ns (some (.d (.int (0 + i)))) (some (.d (fmD f))) (some (.d (.list (cs.map fun c => decD s c E)))) (some (.d (.list (WS.map fun w => .list (cs.map fun c => outD f P w s c))))) z8 z9 (some (.d (.int (j : Nat)))) (some (.d (decD s c E))) (some (.d (decD (1 - s) c E))) (some (.d (.list (WS.map fun w => outD f P w s c)))) z14 (some (.d (outD f P "down" s c))) (some (.d (outD f P "up" s c))) ∧ st = ⟨[x], []⟩) ?_ ?_
  · walk_at "w"
    exact ⟨rfl, rfl, rfl⟩
  rintro _ _ ⟨rfl, rfl⟩
  -- the opposite
  refine seq_cut tbm_law (fun env st => env = e36 ns (some (.d (.int (0 + i)))) (some (.d (fmD f))) (some (.d (.list (cs.map fun c => decD s c E)))) (some (.d (.list (WS.map fun w => .list (cs.map fun c => outD f P w s c))))) z8 z9 (some (.d (.int (j : Nat)))) (some (.d (decD s c E))) (some (.d (decD (1 - s) c E))) (some (.d (.list (WS.map fun w => outD f P w s c)))) z14 (some (.d (outD f P "down" s c))) (some (.d (outD f P "up" s c))) ∧ st = ⟨[x], []⟩) ?_ ?_
  · have same : ((WS.map fun w => PyData.tuple [vlD (oppV (ovl f P w s c)), .tuple ((ofl f P w s c).map PyData.str)]) : List D) = TS.map fun w => outD f P w (1 - s) c := by
      rw [ts_eq, List.map_map]
      refine List.map_congr_left fun w hw => ?_
      obtain ⟨a, b⟩ := out_turn (f := f) (P := P) (ws_in w hw) hs c
      show _ = outD f P (turnW w) (1 - s) c
      unfold outD
      rw [a, b]
    have sh2 : Shp (.list (TS.map fun w => outD f P w (1 - s) c)) := (Fit.lst (k := 3) (w := 37000) fun d hd => by
      obtain ⟨w, _, rfl⟩ := List.mem_map.mp hd
      exact fo' w).shp (by decide)
    walk_at "w"
    refine And.intro (by simp) ?_
    refine loopC_inv tbm_law (fun k st acc => st = ⟨[x], []⟩ ∧ acc = (TS.take k).map fun w => outD f P w (1 - s) c) ?_ ?_ ⟨rfl, rfl⟩
    · rintro k y _ _ hy ⟨rfl, rfl⟩
      have hy : (TS.map PyData.str)[k]? = some y := hy
      rw [List.getElem?_map] at hy
      obtain ⟨w, hw, rfl⟩ := Option.map_eq_some_iff.mp hy
      have hm2 : w ∈ WS := by
        have := List.mem_of_getElem? hw
        revert this
        exact (show ∀ w ∈ TS, w ∈ WS by decide) w
      walk_at "w"
      refine And.intro (fun _ => ?_) (fun z => nomatch z)
      walk_at "w"
      refine ⟨f, w, 1 - s, c, E, rfl, pre hm2 hs' hm, fun z => ?_, fun z d hd => ?_⟩
      · rw [out0 w (1 - s) z]
        walk_at "w"
        refine ⟨rfl, ?_⟩
        rw [tw hw, List.map_append]
        rfl
      · rw [out_is hf hP z hd]
        walk_at "w"
        refine ⟨rfl, ?_⟩
        rw [tw hw, List.map_append]
        rfl
    rintro _ _ ⟨rfl, rfl⟩
    walk_at "w"
    refine And.intro (by simp) ?_
    refine loopC_inv tbm_law (fun k st acc => st = ⟨[x], []⟩ ∧ acc = (WS.take k).map fun w => PyData.tuple [vlD (oppV (ovl f P w s c)), .tuple ((ofl f P w s c).map PyData.str)]) ?_ ?_ ⟨rfl, rfl⟩
    · rintro k y _ _ hy ⟨rfl, rfl⟩
      have hy : (WS.map fun w => outD f P w s c)[k]? = some y := hy
      rw [List.getElem?_map] at hy
      obtain ⟨w, hw, rfl⟩ := Option.map_eq_some_iff.mp hy
      walk_at "w"
      refine And.intro (fun _ => ?_) (fun z => nomatch z)
      walk_at "w"
      refine ⟨ovl f P w s c, .tuple ((ofl f P w s c).map PyData.str), rfl, (vo w).2.1, ?_⟩
      walk_at "w"
      refine ⟨rfl, ?_⟩
      rw [tw hw, List.map_append]
      rfl
    rintro _ _ ⟨rfl, rfl⟩
    have e1 : List.take (List.map PyData.str TS).length TS = TS := rfl
    have e2 : List.take (List.map (fun w => outD f P w s c) WS).length WS = WS := rfl
    walk_at "w"
    refine And.intro (.inr ?_) ?_
    · refine ⟨sh2, ?_⟩
      have := sh2
      rw [← same] at this
      exact this
    · have eqv2 : PyData.eqv (.list (TS.map fun w => outD f P w (1 - s) c)) (.list (WS.map fun w => PyData.tuple [vlD (oppV (ovl f P w s c)), .tuple ((ofl f P w s c).map PyData.str)])) = true := by
        rw [same]
        exact eqv_self sh2
      show brP (!PyData.eqv (.list (TS.map fun w => outD f P w (1 - s) c)) (.list (WS.map fun w => PyData.tuple [vlD (oppV (ovl f P w s c)), .tuple ((ofl f P w s c).map PyData.str)]))) _ _
      rw [eqv2]
      refine And.intro (fun z => nomatch z) (fun _ => ?_)
      exact ⟨rfl, rfl⟩
  rintro _ _ ⟨rfl, rfl⟩
  have two := out_two f P hs c
  have dnW : (Str.ofString "down" : Str) ∈ ways5 := by simp [ways5]
  have upW : (Str.ofString "up" : Str) ∈ ways5 := by simp [ways5]
  have eqd := fun w w' => eqv_vv (vo w).1 (vo w').1
  -- one of both
  refine seq_cut tbm_law (fun env st => env = e36 ns (some (.d (.int (0 + i)))) (some (.d (fmD f))) (some (.d (.list (cs.map fun c => decD s c E)))) (some (.d (.list (WS.map fun w => .list (cs.map fun c => outD f P w s c))))) z8 z9 (some (.d (.int (j : Nat)))) (some (.d (decD s c E))) (some (.d (decD (1 - s) c E))) (some (.d (.list (WS.map fun w => outD f P w s c)))) z14 (some (.d (outD f P "down" s c))) (some (.d (outD f P "up" s c))) ∧ st = ⟨[x], []⟩) ?_ ?_
  · have one : ∀ w ∈ WS, ovl f P w s c = ovl f P "down" s c ∨ ovl f P w s c = ovl f P "up" s c := fun w hw => by
      rcases two with ⟨c1, e1, h⟩ | ⟨A, B, _, h, k⟩
      · left
        rw [(h w (ws_in w hw)).1, (h _ dnW).1]
      · rcases (h w (ws_in w hw)).1 with q | q <;> rcases k with ⟨k1, k2⟩ | ⟨k1, k2⟩
        · exact .inl (by rw [q, k1])
        · exact .inr (by rw [q, k2])
        · exact .inr (by rw [q, k2])
        · exact .inl (by rw [q, k1])
    walk_at "w"
    refine And.intro (by simp) ?_
    refine loopC_inv tbm_law (fun k st acc => st = ⟨[x], []⟩ ∧ acc = []) ?_ ?_ ⟨rfl, rfl⟩
    · rintro k y _ _ hy ⟨rfl, rfl⟩
      have hy : (WS.map fun w => outD f P w s c)[k]? = some y := hy
      rw [List.getElem?_map] at hy
      obtain ⟨w, hw, rfl⟩ := Option.map_eq_some_iff.mp hy
      have hm2 := List.mem_of_getElem? hw
      have shp2 : Shp (.tuple [vlD (ovl f P "down" s c), vlD (ovl f P "up" s c)]) := (Fit.tup (k := 2) (w := 18000) (all_cons (vo "down").2.2 (all_cons (vo "up").2.2 all_nil))).shp (by decide)
      walk_at "w"
      refine And.intro (.inr ⟨vs w, shp2⟩) ?_
      have any : ([vlD (ovl f P "down" s c), vlD (ovl f P "up" s c)].any fun z => PyData.eqv z (vlD (ovl f P w s c))) = true := by
        simp only [List.any_cons, List.any_nil, Bool.or_false, Bool.or_eq_true]
        rw [eqd "down" w, eqd "up" w]
        rcases one w hm2 with q | q
        · exact .inl q.symm
        · exact .inr q.symm
      rw [any]
      refine And.intro (fun z => nomatch z) (fun _ => ?_)
      exact ⟨rfl, rfl⟩
    rintro _ _ ⟨rfl, rfl⟩
    walk_at "w"
    refine And.intro (.inr ⟨shp_nilL, shp_nilL⟩) ?_
    rw [eqv_nilL]
    refine And.intro (fun z => nomatch z) (fun _ => ?_)
    exact ⟨rfl, rfl⟩
  rintro _ _ ⟨rfl, rfl⟩
  have shO := fun w => (fo w).shp (show 3 ≤ 64 by decide)
  have fs : ∀ w, Shp (.tuple ((ofl f P w s c).map PyData.str)) := fun w => (fit_fl (ofl_in w s c)).shp (by decide)
  have shE : Shp (.tuple []) := (Fit.tup (k := 0) (w := 0) all_nil).shp (by decide)
  have shB : ∀ b : Bool, Shp (.bool b) := fun b => (Fit.bool b).shp (by decide)
  rcases two with ⟨c1, e1, h⟩ | ⟨A, B, hne, h, k⟩
  · have v0 := (h _ dnW).1
    have v1 := (h _ upW).1
    have g0 := (h _ dnW).2
    refine seq_cut tbm_law (fun env st => env = e36 ns (some (.d (.int (0 + i)))) (some (.d (fmD f))) (some (.d (.list (cs.map fun c => decD s c E)))) (some (.d (.list (WS.map fun w => .list (cs.map fun c => outD f P w s c))))) z8 z9 (some (.d (.int (j : Nat)))) (some (.d (decD s c E))) (some (.d (decD (1 - s) c E))) (some (.d (.list (WS.map fun w => outD f P w s c)))) z14 (some (.d (outD f P "down" s c))) (some (.d (outD f P "up" s c))) ∧ st = ⟨[x], []⟩) ?_ ?_
    · walk_at "w"
      refine And.intro (.inr ⟨vs "down", vs "up"⟩) ?_
      rw [(eqd "down" "up").mpr (v0.trans v1.symm)]
      refine And.intro (fun _ => ?_) (fun z => nomatch z)
      walk_at "w"
      refine And.intro (by simp) ?_
      refine loopC_inv tbm_law (fun k st acc => st = ⟨[x], []⟩ ∧ acc = []) ?_ ?_ ⟨rfl, rfl⟩
      · rintro k y _ _ hy ⟨rfl, rfl⟩
        have hy : (WS.map fun w => outD f P w s c)[k]? = some y := hy
        rw [List.getElem?_map] at hy
        obtain ⟨w, hw, rfl⟩ := Option.map_eq_some_iff.mp hy
        have hm2 := List.mem_of_getElem? hw
        have eo : outD f P w s c = outD f P "down" s c := by
          unfold outD
          rw [v0, g0, (h w (ws_in w hm2)).1, (h w (ws_in w hm2)).2]
        rw [eo]
        walk_at "w"
        refine And.intro (.inr ⟨shO "down", shO "down"⟩) ?_
        rw [eqv_self (shO "down")]
        refine And.intro (fun z => nomatch z) (fun _ => ?_)
        exact ⟨rfl, rfl⟩
      rintro _ _ ⟨rfl, rfl⟩
      walk_at "w"
      refine And.intro (.inr ⟨shp_nilL, shp_nilL⟩) ?_
      rw [eqv_nilL]
      refine And.intro (fun z => nomatch z) (fun _ => ?_)
      exact ⟨rfl, rfl⟩
    rintro _ _ ⟨rfl, rfl⟩
    have od : outD f P "down" s c = .tuple [vlD (.num s c1 e1), .tuple []] := by unfold outD; rw [v0, g0]; rfl
    have ou : outD f P "up" s c = .tuple [vlD (.num s c1 e1), .tuple []] := by unfold outD; rw [v1, (h _ upW).2]; rfl
    have vn := vs "down"
    rw [v0] at vn
    rw [od, ou]
    walk_at "w"
    refine And.intro (.inr ⟨shE, shE⟩) ?_
    rw [show PyData.eqv (.tuple []) (.tuple []) = true by simp [PyData.eqv, PyData.eqvAll]]
    walk_at "w"
    refine And.intro (.inr ⟨vn, vn⟩) ?_
    rw [eqv_self vn]
    refine And.intro (fun _ => ?_) (fun z => nomatch z)
    walk_at "w"
    refine And.intro (.inl rfl) ?_
    rw [eqv_str]
    refine And.intro (fun _ => ?_) (fun z => absurd z (by decide))
    walk_at "w"
    refine And.intro (.inl rfl) ?_
    refine And.intro (.inr ⟨shB _, shB _⟩) ?_
    refine And.intro (fun z => absurd z (by simp [PyData.eqv])) (fun _ => ?_)
    exact ⟨_, _, _, _, _, _, _, rfl, rfl⟩
  · have ne : ovl f P "down" s c ≠ ovl f P "up" s c := fun q => by
      rcases k with ⟨k1, k2⟩ | ⟨k1, k2⟩
      · exact hne (by rw [← k1, ← k2, q])
      · exact hne (by rw [← k1, ← k2, q])
    have g0 := (h _ dnW).2
    have fl0 : PyData.eqv (.tuple ((ofl f P "down" s c).map PyData.str)) (.tuple []) = false := by
      cases e : ofl f P "down" s c with
      | nil => exact absurd e g0
      | cons a r => simp [PyData.eqv, PyData.eqvAll]
    refine seq_cut tbm_law (fun env st => env = e36 ns (some (.d (.int (0 + i)))) (some (.d (fmD f))) (some (.d (.list (cs.map fun c => decD s c E)))) (some (.d (.list (WS.map fun w => .list (cs.map fun c => outD f P w s c))))) z8 z9 (some (.d (.int (j : Nat)))) (some (.d (decD s c E))) (some (.d (decD (1 - s) c E))) (some (.d (.list (WS.map fun w => outD f P w s c)))) z14 (some (.d (outD f P "down" s c))) (some (.d (outD f P "up" s c))) ∧ st = ⟨[x], []⟩) ?_ ?_
    · walk_at "w"
      refine And.intro (.inr ⟨vs "down", vs "up"⟩) ?_
      rw [Bool.eq_false_iff.mpr fun q => ne ((eqd "down" "up").mp q)]
      refine And.intro (fun z => nomatch z) (fun _ => ?_)
      walk_at "w"
      refine And.intro (fun z => nomatch z) (fun _ => ?_)
      exact ⟨rfl, rfl⟩
    rintro _ _ ⟨rfl, rfl⟩
    walk_at "w"
    refine And.intro (.inr ⟨fs "down", shE⟩) ?_
    rw [fl0]
    walk_at "w"
    refine And.intro (.inr ⟨vs "down", vs "up"⟩) ?_
    rw [Bool.eq_false_iff.mpr fun q => ne ((eqd "down" "up").mp q)]
    refine And.intro (fun z => nomatch z) (fun _ => ?_)
    walk_at "w"
    refine And.intro (.inr ⟨shB _, shB _⟩) ?_
    refine And.intro (fun z => absurd z (by simp [PyData.eqv])) (fun _ => ?_)
    exact ⟨_, _, _, _, _, _, _, rfl, rfl⟩

end VI
namespace VI
open PySem PySem.Spec PyProof.Rows L2
open Hd
section
variable {P : Program} {w : World} {K : PySem.W.Frag} {mg : Str → Option Value} {base h : Heap}
theorem sc_whole_power : FnScope [(Str.ofString "base"), (Str.ofString "e"), (Str.ofString "found")] [(Str.ofString "base"), (Str.ofString "e")] (defScope (top 2)) := ⟨rfl, rfl, rfl, by decide +kernel, rfl, by decide +kernel, by decide +kernel⟩
theorem ck_whole_power : (ckS b_whole_power ⟨[(Str.ofString "base"), (Str.ofString "e"), (Str.ofString "found")], defScope (top 2), fun _ => true, tb_whole_power.fn.map fun q => (q.1, q.2.1), tb_whole_power.gl.map (·.1), ⟨true, false⟩⟩).ss (defBody (top 2)) = true := by decide +kernel
theorem good_whole_power (c : He.SaysD faL fnL K) (X : K.In h) (G : h.Ns mainGlobals mg) (M : ModG mg base ⟨true, false⟩) (E : exB K = true) : Good P w K mg base 1 (Str.ofString "whole_power") 2 sp_whole_power := by
  obtain ⟨fd, F⟩ := c.def_ 0 (d := mkD (Str.ofString "whole_power") (Str.ofString "whole_power") 2) rfl
  exact def_ok (k := 0) (ps := [(Str.ofString "base"), (Str.ofString "e")]) tb_whole_power b_whole_power M AllGood.nil AllGl.nil F sc_whole_power (F.bindsN fun _ _ _ _ _ _ us hl => match us, hl with | [_, _], _ => rfl) (He.glo_ok X G (c.fact 0 (f := .glo (Str.ofString "whole_power")) rfl)) mono_whole_power pure_whole_power ck_whole_power
theorem sc_reduced : FnScope [(Str.ofString "n"), (Str.ofString "d"), (Str.ofString "common")] [(Str.ofString "n"), (Str.ofString "d")] (defScope (top 4)) := ⟨rfl, rfl, rfl, by decide +kernel, rfl, by decide +kernel, by decide +kernel⟩
theorem ck_reduced : (ckS b_reduced ⟨[(Str.ofString "n"), (Str.ofString "d"), (Str.ofString "common")], defScope (top 4), fun _ => true, tb_reduced.fn.map fun q => (q.1, q.2.1), tb_reduced.gl.map (·.1), ⟨true, false⟩⟩).ss (defBody (top 4)) = true := by decide +kernel
theorem good_reduced (c : He.SaysD faL fnL K) (X : K.In h) (G : h.Ns mainGlobals mg) (M : ModG mg base ⟨true, false⟩) (E : exB K = true) : Good P w K mg base 1 (Str.ofString "reduced") 2 sp_reduced := by
  obtain ⟨fd, F⟩ := c.def_ 1 (d := mkD (Str.ofString "reduced") (Str.ofString "reduced") 4) rfl
  exact def_ok (k := 0) (ps := [(Str.ofString "n"), (Str.ofString "d")]) tb_reduced b_reduced M AllGood.nil AllGl.nil F sc_reduced (F.bindsN fun _ _ _ _ _ _ us hl => match us, hl with | [_, _], _ => rfl) (He.glo_ok X G (c.fact 1 (f := .glo (Str.ofString "reduced")) rfl)) mono_reduced pure_reduced ck_reduced
theorem sc_times : FnScope [(Str.ofString "one"), (Str.ofString "other")] [(Str.ofString "one"), (Str.ofString "other")] (defScope (top 5)) := ⟨rfl, rfl, rfl, by decide +kernel, rfl, by decide +kernel, by decide +kernel⟩
theorem ck_times : (ckS b_times ⟨[(Str.ofString "one"), (Str.ofString "other")], defScope (top 5), fun _ => true, tb_times.fn.map fun q => (q.1, q.2.1), tb_times.gl.map (·.1), ⟨true, false⟩⟩).ss (defBody (top 5)) = true := by decide +kernel
theorem good_times (c : He.SaysD faL fnL K) (X : K.In h) (G : h.Ns mainGlobals mg) (M : ModG mg base ⟨true, false⟩) (E : exB K = true) : Good P w K mg base 2 (Str.ofString "times") 2 sp_times := by
  obtain ⟨fd, F⟩ := c.def_ 2 (d := mkD (Str.ofString "times") (Str.ofString "times") 5) rfl
  exact def_ok (k := 1) (ps := [(Str.ofString "one"), (Str.ofString "other")]) tb_times b_times M (.cons ((good_reduced c X G M E).up (by decide)) AllGood.nil) AllGl.nil F sc_times (F.bindsN fun _ _ _ _ _ _ us hl => match us, hl with | [_, _], _ => rfl) (He.glo_ok X G (c.fact 2 (f := .glo (Str.ofString "times")) rfl)) mono_times pure_times ck_times
theorem sc_power_of : FnScope [(Str.ofString "base"), (Str.ofString "e")] [(Str.ofString "base"), (Str.ofString "e")] (defScope (top 6)) := ⟨rfl, rfl, rfl, by decide +kernel, rfl, by decide +kernel, by decide +kernel⟩
theorem ck_power_of : (ckS b_power_of ⟨[(Str.ofString "base"), (Str.ofString "e")], defScope (top 6), fun _ => true, tb_power_of.fn.map fun q => (q.1, q.2.1), tb_power_of.gl.map (·.1), ⟨true, false⟩⟩).ss (defBody (top 6)) = true := by decide +kernel
theorem good_power_of (c : He.SaysD faL fnL K) (X : K.In h) (G : h.Ns mainGlobals mg) (M : ModG mg base ⟨true, false⟩) (E : exB K = true) : Good P w K mg base 2 (Str.ofString "power_of") 2 sp_power_of := by
  obtain ⟨fd, F⟩ := c.def_ 3 (d := mkD (Str.ofString "power_of") (Str.ofString "power_of") 6) rfl
  exact def_ok (k := 1) (ps := [(Str.ofString "base"), (Str.ofString "e")]) tb_power_of b_power_of M (.cons ((good_whole_power c X G M E).up (by decide)) (.cons ((good_reduced c X G M E).up (by decide)) AllGood.nil)) AllGl.nil F sc_power_of (F.bindsN fun _ _ _ _ _ _ us hl => match us, hl with | [_, _], _ => rfl) (He.glo_ok X G (c.fact 3 (f := .glo (Str.ofString "power_of")) rfl)) mono_power_of pure_power_of ck_power_of
theorem sc_is_power_below : FnScope [(Str.ofString "base"), (Str.ofString "k"), (Str.ofString "x")] [(Str.ofString "base"), (Str.ofString "k"), (Str.ofString "x")] (defScope (top 8)) := ⟨rfl, rfl, rfl, by decide +kernel, rfl, by decide +kernel, by decide +kernel⟩
theorem ck_is_power_below : (ckS b_is_power_below ⟨[(Str.ofString "base"), (Str.ofString "k"), (Str.ofString "x")], defScope (top 8), fun _ => true, tb_is_power_below.fn.map fun q => (q.1, q.2.1), tb_is_power_below.gl.map (·.1), ⟨true, false⟩⟩).ss (defBody (top 8)) = true := by decide +kernel
theorem good_is_power_below (c : He.SaysD faL fnL K) (X : K.In h) (G : h.Ns mainGlobals mg) (M : ModG mg base ⟨true, false⟩) (E : exB K = true) : Good P w K mg base 2 (Str.ofString "is_power_below") 3 sp_is_power_below := by
  obtain ⟨fd, F⟩ := c.def_ 4 (d := mkD (Str.ofString "is_power_below") (Str.ofString "is_power_below") 8) rfl
  exact def_ok (k := 1) (ps := [(Str.ofString "base"), (Str.ofString "k"), (Str.ofString "x")]) tb_is_power_below b_is_power_below M (.cons ((good_whole_power c X G M E).up (by decide)) AllGood.nil) AllGl.nil F sc_is_power_below (F.bindsN fun _ _ _ _ _ _ us hl => match us, hl with | [_, _, _], _ => rfl) (He.glo_ok X G (c.fact 4 (f := .glo (Str.ofString "is_power_below")) rfl)) mono_is_power_below pure_is_power_below ck_is_power_below
theorem sc_power_below : FnScope [(Str.ofString "base"), (Str.ofString "x"), (Str.ofString "step"), (Str.ofString "least"), (Str.ofString "most"), (Str.ofString "middle")] [(Str.ofString "base"), (Str.ofString "x")] (defScope (top 9)) := ⟨rfl, rfl, rfl, by decide +kernel, rfl, by decide +kernel, by decide +kernel⟩
theorem ck_power_below : (ckS b_power_below ⟨[(Str.ofString "base"), (Str.ofString "x"), (Str.ofString "step"), (Str.ofString "least"), (Str.ofString "most"), (Str.ofString "middle")], defScope (top 9), fun _ => true, tb_power_below.fn.map fun q => (q.1, q.2.1), tb_power_below.gl.map (·.1), ⟨true, false⟩⟩).ss (defBody (top 9)) = true := by decide +kernel
theorem good_power_below (c : He.SaysD faL fnL K) (X : K.In h) (G : h.Ns mainGlobals mg) (M : ModG mg base ⟨true, false⟩) (E : exB K = true) : Good P w K mg base 3 (Str.ofString "power_below") 2 sp_power_below := by
  obtain ⟨fd, F⟩ := c.def_ 5 (d := mkD (Str.ofString "power_below") (Str.ofString "power_below") 9) rfl
  exact def_ok (k := 2) (ps := [(Str.ofString "base"), (Str.ofString "x")]) tb_power_below b_power_below M (.cons ((good_is_power_below c X G M E).up (by decide)) AllGood.nil) AllGl.nil F sc_power_below (F.bindsN fun _ _ _ _ _ _ us hl => match us, hl with | [_, _], _ => rfl) (He.glo_ok X G (c.fact 5 (f := .glo (Str.ofString "power_below")) rfl)) mono_power_below pure_power_below ck_power_below
theorem sc_scaled : FnScope [(Str.ofString "base"), (Str.ofString "e"), (Str.ofString "x")] [(Str.ofString "base"), (Str.ofString "e"), (Str.ofString "x")] (defScope (top 10)) := ⟨rfl, rfl, rfl, by decide +kernel, rfl, by decide +kernel, by decide +kernel⟩
theorem ck_scaled : (ckS b_scaled ⟨[(Str.ofString "base"), (Str.ofString "e"), (Str.ofString "x")], defScope (top 10), fun _ => true, tb_scaled.fn.map fun q => (q.1, q.2.1), tb_scaled.gl.map (·.1), ⟨true, false⟩⟩).ss (defBody (top 10)) = true := by decide +kernel
theorem good_scaled (c : He.SaysD faL fnL K) (X : K.In h) (G : h.Ns mainGlobals mg) (M : ModG mg base ⟨true, false⟩) (E : exB K = true) : Good P w K mg base 2 (Str.ofString "scaled") 3 sp_scaled := by
  obtain ⟨fd, F⟩ := c.def_ 6 (d := mkD (Str.ofString "scaled") (Str.ofString "scaled") 10) rfl
  exact def_ok (k := 1) (ps := [(Str.ofString "base"), (Str.ofString "e"), (Str.ofString "x")]) tb_scaled b_scaled M (.cons ((good_whole_power c X G M E).up (by decide)) AllGood.nil) AllGl.nil F sc_scaled (F.bindsN fun _ _ _ _ _ _ us hl => match us, hl with | [_, _, _], _ => rfl) (He.glo_ok X G (c.fact 6 (f := .glo (Str.ofString "scaled")) rfl)) mono_scaled pure_scaled ck_scaled
theorem sc_parted : FnScope [(Str.ofString "form"), (Str.ofString "x"), (Str.ofString "e"), (Str.ofString "c"), (Str.ofString "rest"), (Str.ofString "base"), (Str.ofString "digits"), (Str.ofString "low"), (Str.ofString "high"), (Str.ofString "n"), (Str.ofString "d")] [(Str.ofString "form"), (Str.ofString "x")] (defScope (top 11)) := ⟨rfl, rfl, rfl, by decide +kernel, rfl, by decide +kernel, by decide +kernel⟩
theorem ck_parted : (ckS b_parted ⟨[(Str.ofString "form"), (Str.ofString "x"), (Str.ofString "e"), (Str.ofString "c"), (Str.ofString "rest"), (Str.ofString "base"), (Str.ofString "digits"), (Str.ofString "low"), (Str.ofString "high"), (Str.ofString "n"), (Str.ofString "d")], defScope (top 11), fun _ => true, tb_parted.fn.map fun q => (q.1, q.2.1), tb_parted.gl.map (·.1), ⟨true, false⟩⟩).ss (defBody (top 11)) = true := by decide +kernel
theorem good_parted (c : He.SaysD faL fnL K) (X : K.In h) (G : h.Ns mainGlobals mg) (M : ModG mg base ⟨true, false⟩) (E : exB K = true) : Good P w K mg base 4 (Str.ofString "parted") 2 sp_parted := by
  obtain ⟨fd, F⟩ := c.def_ 7 (d := mkD (Str.ofString "parted") (Str.ofString "parted") 11) rfl
  exact def_ok (k := 3) (ps := [(Str.ofString "form"), (Str.ofString "x")]) tb_parted b_parted M (.cons ((good_power_below c X G M E).up (by decide)) (.cons ((good_scaled c X G M E).up (by decide)) AllGood.nil)) AllGl.nil F sc_parted (F.bindsN fun _ _ _ _ _ _ us hl => match us, hl with | [_, _], _ => rfl) (He.glo_ok X G (c.fact 7 (f := .glo (Str.ofString "parted")) rfl)) mono_parted pure_parted ck_parted
theorem sc_raised : FnScope [(Str.ofString "form"), (Str.ofString "c"), (Str.ofString "e")] [(Str.ofString "form"), (Str.ofString "c"), (Str.ofString "e")] (defScope (top 12)) := ⟨rfl, rfl, rfl, by decide +kernel, rfl, by decide +kernel, by decide +kernel⟩
theorem ck_raised : (ckS b_raised ⟨[(Str.ofString "form"), (Str.ofString "c"), (Str.ofString "e")], defScope (top 12), fun _ => true, tb_raised.fn.map fun q => (q.1, q.2.1), tb_raised.gl.map (·.1), ⟨true, false⟩⟩).ss (defBody (top 12)) = true := by decide +kernel
theorem good_raised (c : He.SaysD faL fnL K) (X : K.In h) (G : h.Ns mainGlobals mg) (M : ModG mg base ⟨true, false⟩) (E : exB K = true) : Good P w K mg base 2 (Str.ofString "raised") 3 sp_raised := by
  obtain ⟨fd, F⟩ := c.def_ 8 (d := mkD (Str.ofString "raised") (Str.ofString "raised") 12) rfl
  exact def_ok (k := 1) (ps := [(Str.ofString "form"), (Str.ofString "c"), (Str.ofString "e")]) tb_raised b_raised M (.cons ((good_whole_power c X G M E).up (by decide)) AllGood.nil) AllGl.nil F sc_raised (F.bindsN fun _ _ _ _ _ _ us hl => match us, hl with | [_, _, _], _ => rfl) (He.glo_ok X G (c.fact 8 (f := .glo (Str.ofString "raised")) rfl)) mono_raised pure_raised ck_raised
theorem sc_is_raised : FnScope [(Str.ofString "way"), (Str.ofString "s"), (Str.ofString "c"), (Str.ofString "side")] [(Str.ofString "way"), (Str.ofString "s"), (Str.ofString "c"), (Str.ofString "side")] (defScope (top 13)) := ⟨rfl, rfl, rfl, by decide +kernel, rfl, by decide +kernel, by decide +kernel⟩
theorem ck_is_raised : (ckS b_is_raised ⟨[(Str.ofString "way"), (Str.ofString "s"), (Str.ofString "c"), (Str.ofString "side")], defScope (top 13), fun _ => true, tb_is_raised.fn.map fun q => (q.1, q.2.1), tb_is_raised.gl.map (·.1), ⟨true, false⟩⟩).ss (defBody (top 13)) = true := by decide +kernel
theorem good_is_raised (c : He.SaysD faL fnL K) (X : K.In h) (G : h.Ns mainGlobals mg) (M : ModG mg base ⟨true, false⟩) (E : exB K = true) : Good P w K mg base 1 (Str.ofString "is_raised") 4 sp_is_raised := by
  obtain ⟨fd, F⟩ := c.def_ 9 (d := mkD (Str.ofString "is_raised") (Str.ofString "is_raised") 13) rfl
  exact def_ok (k := 0) (ps := [(Str.ofString "way"), (Str.ofString "s"), (Str.ofString "c"), (Str.ofString "side")]) tb_is_raised b_is_raised M AllGood.nil AllGl.nil F sc_is_raised (F.bindsN fun _ _ _ _ _ _ us hl => match us, hl with | [_, _, _, _], _ => rfl) (He.glo_ok X G (c.fact 9 (f := .glo (Str.ofString "is_raised")) rfl)) mono_is_raised pure_is_raised ck_is_raised
theorem sc_finished : FnScope [(Str.ofString "form"), (Str.ofString "way"), (Str.ofString "s"), (Str.ofString "parts"), (Str.ofString "is_tiny"), (Str.ofString "base"), (Str.ofString "digits"), (Str.ofString "low"), (Str.ofString "high"), (Str.ofString "c"), (Str.ofString "e"), (Str.ofString "side"), (Str.ofString "is_inf")] [(Str.ofString "form"), (Str.ofString "way"), (Str.ofString "s"), (Str.ofString "parts")] (defScope (top 14)) := ⟨rfl, rfl, rfl, by decide +kernel, rfl, by decide +kernel, by decide +kernel⟩
theorem ck_finished : (ckS b_finished ⟨[(Str.ofString "form"), (Str.ofString "way"), (Str.ofString "s"), (Str.ofString "parts"), (Str.ofString "is_tiny"), (Str.ofString "base"), (Str.ofString "digits"), (Str.ofString "low"), (Str.ofString "high"), (Str.ofString "c"), (Str.ofString "e"), (Str.ofString "side"), (Str.ofString "is_inf")], defScope (top 14), fun _ => true, tb_finished.fn.map fun q => (q.1, q.2.1), tb_finished.gl.map (·.1), ⟨true, false⟩⟩).ss (defBody (top 14)) = true := by decide +kernel
theorem good_finished (c : He.SaysD faL fnL K) (X : K.In h) (G : h.Ns mainGlobals mg) (M : ModG mg base ⟨true, false⟩) (E : exB K = true) : Good P w K mg base 3 (Str.ofString "finished") 4 sp_finished := by
  obtain ⟨fd, F⟩ := c.def_ 10 (d := mkD (Str.ofString "finished") (Str.ofString "finished") 14) rfl
  exact def_ok (k := 2) (ps := [(Str.ofString "form"), (Str.ofString "way"), (Str.ofString "s"), (Str.ofString "parts")]) tb_finished b_finished M (.cons ((good_is_raised c X G M E).up (by decide)) (.cons ((good_raised c X G M E).up (by decide)) (.cons ((good_whole_power c X G M E).up (by decide)) AllGood.nil))) AllGl.nil F sc_finished (F.bindsN fun _ _ _ _ _ _ us hl => match us, hl with | [_, _, _, _], _ => rfl) (He.glo_ok X G (c.fact 10 (f := .glo (Str.ofString "finished")) rfl)) mono_finished pure_finished ck_finished
theorem sc_without_sign : FnScope [(Str.ofString "x")] [(Str.ofString "x")] (defScope (top 15)) := ⟨rfl, rfl, rfl, by decide +kernel, rfl, by decide +kernel, by decide +kernel⟩
theorem ck_without_sign : (ckS b_without_sign ⟨[(Str.ofString "x")], defScope (top 15), fun _ => true, tb_without_sign.fn.map fun q => (q.1, q.2.1), tb_without_sign.gl.map (·.1), ⟨true, false⟩⟩).ss (defBody (top 15)) = true := by decide +kernel
theorem good_without_sign (c : He.SaysD faL fnL K) (X : K.In h) (G : h.Ns mainGlobals mg) (M : ModG mg base ⟨true, false⟩) (E : exB K = true) : Good P w K mg base 1 (Str.ofString "without_sign") 1 sp_without_sign := by
  obtain ⟨fd, F⟩ := c.def_ 11 (d := mkD (Str.ofString "without_sign") (Str.ofString "without_sign") 15) rfl
  exact def_ok (k := 0) (ps := [(Str.ofString "x")]) tb_without_sign b_without_sign M AllGood.nil AllGl.nil F sc_without_sign (F.bindsN fun _ _ _ _ _ _ us hl => match us, hl with | [_], _ => rfl) (He.glo_ok X G (c.fact 11 (f := .glo (Str.ofString "without_sign")) rfl)) mono_without_sign pure_without_sign ck_without_sign
theorem sc_rounded : FnScope [(Str.ofString "form"), (Str.ofString "way"), (Str.ofString "x"), (Str.ofString "s")] [(Str.ofString "form"), (Str.ofString "way"), (Str.ofString "x"), (Str.ofString "s")] (defScope (top 16)) := ⟨rfl, rfl, rfl, by decide +kernel, rfl, by decide +kernel, by decide +kernel⟩
theorem ck_rounded : (ckS b_rounded ⟨[(Str.ofString "form"), (Str.ofString "way"), (Str.ofString "x"), (Str.ofString "s")], defScope (top 16), fun _ => true, tb_rounded.fn.map fun q => (q.1, q.2.1), tb_rounded.gl.map (·.1), ⟨true, false⟩⟩).ss (defBody (top 16)) = true := by decide +kernel
theorem good_rounded (c : He.SaysD faL fnL K) (X : K.In h) (G : h.Ns mainGlobals mg) (M : ModG mg base ⟨true, false⟩) (E : exB K = true) : Good P w K mg base 5 (Str.ofString "rounded") 4 sp_rounded := by
  obtain ⟨fd, F⟩ := c.def_ 12 (d := mkD (Str.ofString "rounded") (Str.ofString "rounded") 16) rfl
  exact def_ok (k := 4) (ps := [(Str.ofString "form"), (Str.ofString "way"), (Str.ofString "x"), (Str.ofString "s")]) tb_rounded b_rounded M (.cons ((good_finished c X G M E).up (by decide)) (.cons ((good_parted c X G M E).up (by decide)) (.cons ((good_without_sign c X G M E).up (by decide)) AllGood.nil))) AllGl.nil F sc_rounded (F.bindsN fun _ _ _ _ _ _ us hl => match us, hl with | [_, _, _, _], _ => rfl) (He.glo_ok X G (c.fact 12 (f := .glo (Str.ofString "rounded")) rfl)) mono_rounded pure_rounded ck_rounded
theorem sc_decimal_worth : FnScope [(Str.ofString "decimal"), (Str.ofString "s"), (Str.ofString "c"), (Str.ofString "e")] [(Str.ofString "decimal")] (defScope (top 18)) := ⟨rfl, rfl, rfl, by decide +kernel, rfl, by decide +kernel, by decide +kernel⟩
theorem ck_decimal_worth : (ckS b_decimal_worth ⟨[(Str.ofString "decimal"), (Str.ofString "s"), (Str.ofString "c"), (Str.ofString "e")], defScope (top 18), fun _ => true, tb_decimal_worth.fn.map fun q => (q.1, q.2.1), tb_decimal_worth.gl.map (·.1), ⟨true, false⟩⟩).ss (defBody (top 18)) = true := by decide +kernel
theorem good_decimal_worth (c : He.SaysD faL fnL K) (X : K.In h) (G : h.Ns mainGlobals mg) (M : ModG mg base ⟨true, false⟩) (E : exB K = true) : Good P w K mg base 3 (Str.ofString "decimal_worth") 1 sp_decimal_worth := by
  obtain ⟨fd, F⟩ := c.def_ 13 (d := mkD (Str.ofString "decimal_worth") (Str.ofString "decimal_worth") 18) rfl
  exact def_ok (k := 2) (ps := [(Str.ofString "decimal")]) tb_decimal_worth b_decimal_worth M (.cons ((good_times c X G M E).up (by decide)) (.cons ((good_power_of c X G M E).up (by decide)) AllGood.nil)) AllGl.nil F sc_decimal_worth (F.bindsN fun _ _ _ _ _ _ us hl => match us, hl with | [_], _ => rfl) (He.glo_ok X G (c.fact 13 (f := .glo (Str.ofString "decimal_worth")) rfl)) mono_decimal_worth pure_decimal_worth ck_decimal_worth
theorem sc_zero : FnScope [(Str.ofString "form"), (Str.ofString "s")] [(Str.ofString "form"), (Str.ofString "s")] (defScope (top 20)) := ⟨rfl, rfl, rfl, by decide +kernel, rfl, by decide +kernel, by decide +kernel⟩
theorem ck_zero : (ckS b_zero ⟨[(Str.ofString "form"), (Str.ofString "s")], defScope (top 20), fun _ => true, tb_zero.fn.map fun q => (q.1, q.2.1), tb_zero.gl.map (·.1), ⟨true, false⟩⟩).ss (defBody (top 20)) = true := by decide +kernel
theorem good_zero (c : He.SaysD faL fnL K) (X : K.In h) (G : h.Ns mainGlobals mg) (M : ModG mg base ⟨true, false⟩) (E : exB K = true) : Good P w K mg base 1 (Str.ofString "zero") 2 sp_zero := by
  obtain ⟨fd, F⟩ := c.def_ 14 (d := mkD (Str.ofString "zero") (Str.ofString "zero") 20) rfl
  exact def_ok (k := 0) (ps := [(Str.ofString "form"), (Str.ofString "s")]) tb_zero b_zero M AllGood.nil AllGl.nil F sc_zero (F.bindsN fun _ _ _ _ _ _ us hl => match us, hl with | [_, _], _ => rfl) (He.glo_ok X G (c.fact 14 (f := .glo (Str.ofString "zero")) rfl)) mono_zero pure_zero ck_zero
theorem sc_room_of : FnScope [(Str.ofString "form"), (Str.ofString "base"), (Str.ofString "digits"), (Str.ofString "low"), (Str.ofString "high")] [(Str.ofString "form")] (defScope (top 22)) := ⟨rfl, rfl, rfl, by decide +kernel, rfl, by decide +kernel, by decide +kernel⟩
theorem ck_room_of : (ckS b_room_of ⟨[(Str.ofString "form"), (Str.ofString "base"), (Str.ofString "digits"), (Str.ofString "low"), (Str.ofString "high")], defScope (top 22), fun _ => true, tb_room_of.fn.map fun q => (q.1, q.2.1), tb_room_of.gl.map (·.1), ⟨true, false⟩⟩).ss (defBody (top 22)) = true := by decide +kernel
theorem good_room_of (c : He.SaysD faL fnL K) (X : K.In h) (G : h.Ns mainGlobals mg) (M : ModG mg base ⟨true, false⟩) (E : exB K = true) : Good P w K mg base 1 (Str.ofString "room_of") 1 sp_room_of := by
  obtain ⟨fd, F⟩ := c.def_ 15 (d := mkD (Str.ofString "room_of") (Str.ofString "room_of") 22) rfl
  exact def_ok (k := 0) (ps := [(Str.ofString "form")]) tb_room_of b_room_of M AllGood.nil AllGl.nil F sc_room_of (F.bindsN fun _ _ _ _ _ _ us hl => match us, hl with | [_], _ => rfl) (He.glo_ok X G (c.fact 15 (f := .glo (Str.ofString "room_of")) rfl)) mono_room_of pure_room_of ck_room_of
theorem sc_bounded : FnScope [(Str.ofString "form"), (Str.ofString "decimal"), (Str.ofString "s"), (Str.ofString "c"), (Str.ofString "e"), (Str.ofString "most"), (Str.ofString "many")] [(Str.ofString "form"), (Str.ofString "decimal")] (defScope (top 23)) := ⟨rfl, rfl, rfl, by decide +kernel, rfl, by decide +kernel, by decide +kernel⟩
theorem ck_bounded : (ckS b_bounded ⟨[(Str.ofString "form"), (Str.ofString "decimal"), (Str.ofString "s"), (Str.ofString "c"), (Str.ofString "e"), (Str.ofString "most"), (Str.ofString "many")], defScope (top 23), fun _ => true, tb_bounded.fn.map fun q => (q.1, q.2.1), tb_bounded.gl.map (·.1), ⟨true, false⟩⟩).ss (defBody (top 23)) = true := by decide +kernel
theorem good_bounded (c : He.SaysD faL fnL K) (X : K.In h) (G : h.Ns mainGlobals mg) (M : ModG mg base ⟨true, false⟩) (E : exB K = true) : Good P w K mg base 2 (Str.ofString "bounded") 2 sp_bounded := by
  obtain ⟨fd, F⟩ := c.def_ 16 (d := mkD (Str.ofString "bounded") (Str.ofString "bounded") 23) rfl
  exact def_ok (k := 1) (ps := [(Str.ofString "form"), (Str.ofString "decimal")]) tb_bounded b_bounded M (.cons ((good_room_of c X G M E).up (by decide)) AllGood.nil) AllGl.nil F sc_bounded (F.bindsN fun _ _ _ _ _ _ us hl => match us, hl with | [_, _], _ => rfl) (He.glo_ok X G (c.fact 16 (f := .glo (Str.ofString "bounded")) rfl)) mono_bounded pure_bounded ck_bounded
theorem sc_read_decimal : FnScope [(Str.ofString "form"), (Str.ofString "way"), (Str.ofString "decimal")] [(Str.ofString "form"), (Str.ofString "way"), (Str.ofString "decimal")] (defScope (top 24)) := ⟨rfl, rfl, rfl, by decide +kernel, rfl, by decide +kernel, by decide +kernel⟩
theorem ck_read_decimal : (ckS b_read_decimal ⟨[(Str.ofString "form"), (Str.ofString "way"), (Str.ofString "decimal")], defScope (top 24), fun _ => true, tb_read_decimal.fn.map fun q => (q.1, q.2.1), tb_read_decimal.gl.map (·.1), ⟨true, false⟩⟩).ss (defBody (top 24)) = true := by decide +kernel
theorem good_read_decimal (c : He.SaysD faL fnL K) (X : K.In h) (G : h.Ns mainGlobals mg) (M : ModG mg base ⟨true, false⟩) (E : exB K = true) : Good P w K mg base 6 (Str.ofString "read_decimal") 3 sp_read_decimal := by
  obtain ⟨fd, F⟩ := c.def_ 17 (d := mkD (Str.ofString "read_decimal") (Str.ofString "read_decimal") 24) rfl
  exact def_ok (k := 5) (ps := [(Str.ofString "form"), (Str.ofString "way"), (Str.ofString "decimal")]) tb_read_decimal b_read_decimal M (.cons ((good_zero c X G M E).up (by decide)) (.cons ((good_rounded c X G M E).up (by decide)) (.cons ((good_decimal_worth c X G M E).up (by decide)) (.cons ((good_bounded c X G M E).up (by decide)) AllGood.nil)))) AllGl.nil F sc_read_decimal (F.bindsN fun _ _ _ _ _ _ us hl => match us, hl with | [_, _, _], _ => rfl) (He.glo_ok X G (c.fact 17 (f := .glo (Str.ofString "read_decimal")) rfl)) mono_read_decimal pure_read_decimal ck_read_decimal
theorem sc_law_bag : FnScope [(Str.ofString "_law_script"), (Str.ofString "_law_cell")] [(Str.ofString "_law_script")] (defScope (top 26)) := ⟨rfl, rfl, rfl, by decide +kernel, rfl, by decide +kernel, by decide +kernel⟩
theorem ck_law_bag : (ckS b_law_bag ⟨[(Str.ofString "_law_script"), (Str.ofString "_law_cell")], defScope (top 26), fun _ => true, tb_law_bag.fn.map fun q => (q.1, q.2.1), tb_law_bag.gl.map (·.1), ⟨true, false⟩⟩).ss (defBody (top 26)) = true := by decide +kernel
theorem good_law_bag (c : He.SaysD faL fnL K) (X : K.In h) (G : h.Ns mainGlobals mg) (M : ModG mg base ⟨true, false⟩) (E : exB K = true) : Good P w K mg base 1 (Str.ofString "_law_bag") 1 sp_law_bag := by
  obtain ⟨fd, F⟩ := c.def_ 18 (d := mkD (Str.ofString "_law_bag") (Str.ofString "_law_bag") 26) rfl
  exact def_ok (k := 0) (ps := [(Str.ofString "_law_script")]) tb_law_bag b_law_bag M AllGood.nil AllGl.nil F sc_law_bag (F.bindsN fun _ _ _ _ _ _ us hl => match us, hl with | [_], _ => rfl) (He.glo_ok X G (c.fact 18 (f := .glo (Str.ofString "_law_bag")) rfl)) mono_law_bag pure_law_bag ck_law_bag
theorem sc_law_take : FnScope [(Str.ofString "_law_bag_here"), (Str.ofString "_law_many"), (Str.ofString "_law_begin"), (Str.ofString "_law_second"), (Str.ofString "_law_cell"), (Str.ofString "_law_stirred"), (Str.ofString "_law_value")] [(Str.ofString "_law_bag_here"), (Str.ofString "_law_many")] (defScope (top 27)) := ⟨rfl, rfl, rfl, by decide +kernel, rfl, by decide +kernel, by decide +kernel⟩
theorem ck_law_take : (ckS b_law_take ⟨[(Str.ofString "_law_bag_here"), (Str.ofString "_law_many"), (Str.ofString "_law_begin"), (Str.ofString "_law_second"), (Str.ofString "_law_cell"), (Str.ofString "_law_stirred"), (Str.ofString "_law_value")], defScope (top 27), fun _ => true, tb_law_take.fn.map fun q => (q.1, q.2.1), tb_law_take.gl.map (·.1), ⟨true, false⟩⟩).ss (defBody (top 27)) = true := by decide +kernel
theorem good_law_take (c : He.SaysD faL fnL K) (X : K.In h) (G : h.Ns mainGlobals mg) (M : ModG mg base ⟨true, false⟩) (E : exB K = true) : Good P w K mg base 1 (Str.ofString "_law_take") 2 sp_law_take := by
  obtain ⟨fd, F⟩ := c.def_ 19 (d := mkD (Str.ofString "_law_take") (Str.ofString "_law_take") 27) rfl
  exact def_ok (k := 0) (ps := [(Str.ofString "_law_bag_here"), (Str.ofString "_law_many")]) tb_law_take b_law_take M AllGood.nil AllGl.nil F sc_law_take (F.bindsN fun _ _ _ _ _ _ us hl => match us, hl with | [_, _], _ => rfl) (He.glo_ok X G (c.fact 19 (f := .glo (Str.ofString "_law_take")) rfl)) mono_law_take pure_law_take ck_law_take
theorem sc_law_some : FnScope [(Str.ofString "_law_bag_here"), (Str.ofString "_law_things")] [(Str.ofString "_law_bag_here"), (Str.ofString "_law_things")] (defScope (top 28)) := ⟨rfl, rfl, rfl, by decide +kernel, rfl, by decide +kernel, by decide +kernel⟩
theorem ck_law_some : (ckS b_law_some ⟨[(Str.ofString "_law_bag_here"), (Str.ofString "_law_things")], defScope (top 28), fun _ => true, tb_law_some.fn.map fun q => (q.1, q.2.1), tb_law_some.gl.map (·.1), ⟨true, false⟩⟩).ss (defBody (top 28)) = true := by decide +kernel
theorem good_law_some (c : He.SaysD faL fnL K) (X : K.In h) (G : h.Ns mainGlobals mg) (M : ModG mg base ⟨true, false⟩) (E : exB K = true) : Good P w K mg base 2 (Str.ofString "_law_some") 2 sp_law_some := by
  obtain ⟨fd, F⟩ := c.def_ 20 (d := mkD (Str.ofString "_law_some") (Str.ofString "_law_some") 28) rfl
  exact def_ok (k := 1) (ps := [(Str.ofString "_law_bag_here"), (Str.ofString "_law_things")]) tb_law_some b_law_some M (.cons ((good_law_take c X G M E).up (by decide)) AllGood.nil) AllGl.nil F sc_law_some (F.bindsN fun _ _ _ _ _ _ us hl => match us, hl with | [_, _], _ => rfl) (He.glo_ok X G (c.fact 20 (f := .glo (Str.ofString "_law_some")) rfl)) mono_law_some pure_law_some ck_law_some
theorem sc_law_format : FnScope [(Str.ofString "_law_bag_here"), (Str.ofString "_law_small"), (Str.ofString "_law_world")] [(Str.ofString "_law_bag_here")] (defScope (top 29)) := ⟨rfl, rfl, rfl, by decide +kernel, rfl, by decide +kernel, by decide +kernel⟩
theorem ck_law_format : (ckS b_law_format ⟨[(Str.ofString "_law_bag_here"), (Str.ofString "_law_small"), (Str.ofString "_law_world")], defScope (top 29), fun _ => true, tb_law_format.fn.map fun q => (q.1, q.2.1), tb_law_format.gl.map (·.1), ⟨true, false⟩⟩).ss (defBody (top 29)) = true := by decide +kernel
theorem good_law_format (c : He.SaysD faL fnL K) (X : K.In h) (G : h.Ns mainGlobals mg) (M : ModG mg base ⟨true, false⟩) (E : exB K = true) : Good P w K mg base 3 (Str.ofString "_law_format") 1 sp_law_format := by
  obtain ⟨fd, F⟩ := c.def_ 21 (d := mkD (Str.ofString "_law_format") (Str.ofString "_law_format") 29) rfl
  exact def_ok (k := 2) (ps := [(Str.ofString "_law_bag_here")]) tb_law_format b_law_format M (.cons ((good_law_take c X G M E).up (by decide)) (.cons ((good_law_some c X G M E).up (by decide)) AllGood.nil)) AllGl.nil F sc_law_format (F.bindsN fun _ _ _ _ _ _ us hl => match us, hl with | [_], _ => rfl) (He.glo_ok X G (c.fact 21 (f := .glo (Str.ofString "_law_format")) rfl)) mono_law_format pure_law_format ck_law_format
theorem sc_law_to : FnScope [(Str.ofString "_law_base"), (Str.ofString "_law_n"), (Str.ofString "_law_found")] [(Str.ofString "_law_base"), (Str.ofString "_law_n")] (defScope (top 30)) := ⟨rfl, rfl, rfl, by decide +kernel, rfl, by decide +kernel, by decide +kernel⟩
theorem ck_law_to : (ckS b_law_to ⟨[(Str.ofString "_law_base"), (Str.ofString "_law_n"), (Str.ofString "_law_found")], defScope (top 30), fun _ => true, tb_law_to.fn.map fun q => (q.1, q.2.1), tb_law_to.gl.map (·.1), ⟨true, false⟩⟩).ss (defBody (top 30)) = true := by decide +kernel
theorem good_law_to (c : He.SaysD faL fnL K) (X : K.In h) (G : h.Ns mainGlobals mg) (M : ModG mg base ⟨true, false⟩) (E : exB K = true) : Good P w K mg base 1 (Str.ofString "_law_to") 2 sp_law_to := by
  obtain ⟨fd, F⟩ := c.def_ 22 (d := mkD (Str.ofString "_law_to") (Str.ofString "_law_to") 30) rfl
  exact def_ok (k := 0) (ps := [(Str.ofString "_law_base"), (Str.ofString "_law_n")]) tb_law_to b_law_to M AllGood.nil AllGl.nil F sc_law_to (F.bindsN fun _ _ _ _ _ _ us hl => match us, hl with | [_, _], _ => rfl) (He.glo_ok X G (c.fact 22 (f := .glo (Str.ofString "_law_to")) rfl)) mono_law_to pure_law_to ck_law_to
theorem sc_law_power : FnScope [(Str.ofString "_law_base"), (Str.ofString "_law_e")] [(Str.ofString "_law_base"), (Str.ofString "_law_e")] (defScope (top 31)) := ⟨rfl, rfl, rfl, by decide +kernel, rfl, by decide +kernel, by decide +kernel⟩
theorem ck_law_power : (ckS b_law_power ⟨[(Str.ofString "_law_base"), (Str.ofString "_law_e")], defScope (top 31), fun _ => true, tb_law_power.fn.map fun q => (q.1, q.2.1), tb_law_power.gl.map (·.1), ⟨true, false⟩⟩).ss (defBody (top 31)) = true := by decide +kernel
theorem good_law_power (c : He.SaysD faL fnL K) (X : K.In h) (G : h.Ns mainGlobals mg) (M : ModG mg base ⟨true, false⟩) (E : exB K = true) : Good P w K mg base 2 (Str.ofString "_law_power") 2 sp_law_power := by
  obtain ⟨fd, F⟩ := c.def_ 23 (d := mkD (Str.ofString "_law_power") (Str.ofString "_law_power") 31) rfl
  exact def_ok (k := 1) (ps := [(Str.ofString "_law_base"), (Str.ofString "_law_e")]) tb_law_power b_law_power M (.cons ((good_law_to c X G M E).up (by decide)) AllGood.nil) AllGl.nil F sc_law_power (F.bindsN fun _ _ _ _ _ _ us hl => match us, hl with | [_, _], _ => rfl) (He.glo_ok X G (c.fact 23 (f := .glo (Str.ofString "_law_power")) rfl)) mono_law_power pure_law_power ck_law_power
theorem sc_law_size : FnScope [(Str.ofString "_law_form"), (Str.ofString "_law_c_here"), (Str.ofString "_law_e"), (Str.ofString "_law_n"), (Str.ofString "_law_d")] [(Str.ofString "_law_form"), (Str.ofString "_law_c_here"), (Str.ofString "_law_e")] (defScope (top 32)) := ⟨rfl, rfl, rfl, by decide +kernel, rfl, by decide +kernel, by decide +kernel⟩
theorem ck_law_size : (ckS b_law_size ⟨[(Str.ofString "_law_form"), (Str.ofString "_law_c_here"), (Str.ofString "_law_e"), (Str.ofString "_law_n"), (Str.ofString "_law_d")], defScope (top 32), fun _ => true, tb_law_size.fn.map fun q => (q.1, q.2.1), tb_law_size.gl.map (·.1), ⟨true, false⟩⟩).ss (defBody (top 32)) = true := by decide +kernel
theorem good_law_size (c : He.SaysD faL fnL K) (X : K.In h) (G : h.Ns mainGlobals mg) (M : ModG mg base ⟨true, false⟩) (E : exB K = true) : Good P w K mg base 3 (Str.ofString "_law_size") 3 sp_law_size := by
  obtain ⟨fd, F⟩ := c.def_ 24 (d := mkD (Str.ofString "_law_size") (Str.ofString "_law_size") 32) rfl
  exact def_ok (k := 2) (ps := [(Str.ofString "_law_form"), (Str.ofString "_law_c_here"), (Str.ofString "_law_e")]) tb_law_size b_law_size M (.cons ((good_law_power c X G M E).up (by decide)) AllGood.nil) AllGl.nil F sc_law_size (F.bindsN fun _ _ _ _ _ _ us hl => match us, hl with | [_, _, _], _ => rfl) (He.glo_ok X G (c.fact 24 (f := .glo (Str.ofString "_law_size")) rfl)) mono_law_size pure_law_size ck_law_size
theorem sc_law_c : FnScope [(Str.ofString "_law_bag_here"), (Str.ofString "_law_form"), (Str.ofString "_law_e"), (Str.ofString "_law_menu"), (Str.ofString "_law_base"), (Str.ofString "_law_digits"), (Str.ofString "_law_low"), (Str.ofString "_law_high"), (Str.ofString "_law_least"), (Str.ofString "_law_most")] [(Str.ofString "_law_bag_here"), (Str.ofString "_law_form"), (Str.ofString "_law_e")] (defScope (top 33)) := ⟨rfl, rfl, rfl, by decide +kernel, rfl, by decide +kernel, by decide +kernel⟩
theorem ck_law_c : (ckS b_law_c ⟨[(Str.ofString "_law_bag_here"), (Str.ofString "_law_form"), (Str.ofString "_law_e"), (Str.ofString "_law_menu"), (Str.ofString "_law_base"), (Str.ofString "_law_digits"), (Str.ofString "_law_low"), (Str.ofString "_law_high"), (Str.ofString "_law_least"), (Str.ofString "_law_most")], defScope (top 33), fun _ => true, tb_law_c.fn.map fun q => (q.1, q.2.1), tb_law_c.gl.map (·.1), ⟨true, false⟩⟩).ss (defBody (top 33)) = true := by decide +kernel
theorem good_law_c (c : He.SaysD faL fnL K) (X : K.In h) (G : h.Ns mainGlobals mg) (M : ModG mg base ⟨true, false⟩) (E : exB K = true) : Good P w K mg base 3 (Str.ofString "_law_c") 3 sp_law_c := by
  obtain ⟨fd, F⟩ := c.def_ 25 (d := mkD (Str.ofString "_law_c") (Str.ofString "_law_c") 33) rfl
  exact def_ok (k := 2) (ps := [(Str.ofString "_law_bag_here"), (Str.ofString "_law_form"), (Str.ofString "_law_e")]) tb_law_c b_law_c M (.cons ((good_law_to c X G M E).up (by decide)) (.cons ((good_law_take c X G M E).up (by decide)) (.cons ((good_law_some c X G M E).up (by decide)) AllGood.nil))) AllGl.nil F sc_law_c (F.bindsN fun _ _ _ _ _ _ us hl => match us, hl with | [_, _, _], _ => rfl) (He.glo_ok X G (c.fact 25 (f := .glo (Str.ofString "_law_c")) rfl)) mono_law_c pure_law_c ck_law_c
theorem sc_law_number : FnScope [(Str.ofString "_law_bag_here"), (Str.ofString "_law_form"), (Str.ofString "_law_near"), (Str.ofString "_law_e"), (Str.ofString "_law_base"), (Str.ofString "_law_digits"), (Str.ofString "_law_low"), (Str.ofString "_law_high")] [(Str.ofString "_law_bag_here"), (Str.ofString "_law_form")] (defScope (top 34)) := ⟨rfl, rfl, rfl, by decide +kernel, rfl, by decide +kernel, by decide +kernel⟩
theorem ck_law_number : (ckS b_law_number ⟨[(Str.ofString "_law_bag_here"), (Str.ofString "_law_form"), (Str.ofString "_law_near"), (Str.ofString "_law_e"), (Str.ofString "_law_base"), (Str.ofString "_law_digits"), (Str.ofString "_law_low"), (Str.ofString "_law_high")], defScope (top 34), fun _ => true, tb_law_number.fn.map fun q => (q.1, q.2.1), tb_law_number.gl.map (·.1), ⟨true, false⟩⟩).ss (defBody (top 34)) = true := by decide +kernel
theorem good_law_number (c : He.SaysD faL fnL K) (X : K.In h) (G : h.Ns mainGlobals mg) (M : ModG mg base ⟨true, false⟩) (E : exB K = true) : Good P w K mg base 4 (Str.ofString "_law_number") 2 sp_law_number := by
  obtain ⟨fd, F⟩ := c.def_ 26 (d := mkD (Str.ofString "_law_number") (Str.ofString "_law_number") 34) rfl
  exact def_ok (k := 3) (ps := [(Str.ofString "_law_bag_here"), (Str.ofString "_law_form")]) tb_law_number b_law_number M (.cons ((good_law_take c X G M E).up (by decide)) (.cons ((good_law_some c X G M E).up (by decide)) (.cons ((good_law_c c X G M E).up (by decide)) AllGood.nil))) AllGl.nil F sc_law_number (F.bindsN fun _ _ _ _ _ _ us hl => match us, hl with | [_, _], _ => rfl) (He.glo_ok X G (c.fact 26 (f := .glo (Str.ofString "_law_number")) rfl)) mono_law_number pure_law_number ck_law_number
theorem sc_law_next : FnScope [(Str.ofString "_law_form"), (Str.ofString "_law_c_here"), (Str.ofString "_law_e"), (Str.ofString "_law_base"), (Str.ofString "_law_digits")] [(Str.ofString "_law_form"), (Str.ofString "_law_c_here"), (Str.ofString "_law_e")] (defScope (top 35)) := ⟨rfl, rfl, rfl, by decide +kernel, rfl, by decide +kernel, by decide +kernel⟩
theorem ck_law_next : (ckS b_law_next ⟨[(Str.ofString "_law_form"), (Str.ofString "_law_c_here"), (Str.ofString "_law_e"), (Str.ofString "_law_base"), (Str.ofString "_law_digits")], defScope (top 35), fun _ => true, tb_law_next.fn.map fun q => (q.1, q.2.1), tb_law_next.gl.map (·.1), ⟨true, false⟩⟩).ss (defBody (top 35)) = true := by decide +kernel
theorem good_law_next (c : He.SaysD faL fnL K) (X : K.In h) (G : h.Ns mainGlobals mg) (M : ModG mg base ⟨true, false⟩) (E : exB K = true) : Good P w K mg base 2 (Str.ofString "_law_next") 3 sp_law_next := by
  obtain ⟨fd, F⟩ := c.def_ 27 (d := mkD (Str.ofString "_law_next") (Str.ofString "_law_next") 35) rfl
  exact def_ok (k := 1) (ps := [(Str.ofString "_law_form"), (Str.ofString "_law_c_here"), (Str.ofString "_law_e")]) tb_law_next b_law_next M (.cons ((good_law_to c X G M E).up (by decide)) AllGood.nil) AllGl.nil F sc_law_next (F.bindsN fun _ _ _ _ _ _ us hl => match us, hl with | [_, _, _], _ => rfl) (He.glo_ok X G (c.fact 27 (f := .glo (Str.ofString "_law_next")) rfl)) mono_law_next pure_law_next ck_law_next
theorem sc_law_compared : FnScope [(Str.ofString "_law_one"), (Str.ofString "_law_other")] [(Str.ofString "_law_one"), (Str.ofString "_law_other")] (defScope (top 36)) := ⟨rfl, rfl, rfl, by decide +kernel, rfl, by decide +kernel, by decide +kernel⟩
theorem ck_law_compared : (ckS b_law_compared ⟨[(Str.ofString "_law_one"), (Str.ofString "_law_other")], defScope (top 36), fun _ => true, tb_law_compared.fn.map fun q => (q.1, q.2.1), tb_law_compared.gl.map (·.1), ⟨true, false⟩⟩).ss (defBody (top 36)) = true := by decide +kernel
theorem good_law_compared (c : He.SaysD faL fnL K) (X : K.In h) (G : h.Ns mainGlobals mg) (M : ModG mg base ⟨true, false⟩) (E : exB K = true) : Good P w K mg base 1 (Str.ofString "_law_compared") 2 sp_law_compared := by
  obtain ⟨fd, F⟩ := c.def_ 28 (d := mkD (Str.ofString "_law_compared") (Str.ofString "_law_compared") 36) rfl
  exact def_ok (k := 0) (ps := [(Str.ofString "_law_one"), (Str.ofString "_law_other")]) tb_law_compared b_law_compared M AllGood.nil AllGl.nil F sc_law_compared (F.bindsN fun _ _ _ _ _ _ us hl => match us, hl with | [_, _], _ => rfl) (He.glo_ok X G (c.fact 28 (f := .glo (Str.ofString "_law_compared")) rfl)) mono_law_compared pure_law_compared ck_law_compared
theorem sc_law_ends : FnScope [(Str.ofString "_law_form"), (Str.ofString "_law_c_here"), (Str.ofString "_law_e"), (Str.ofString "_law_below"), (Str.ofString "_law_ends_here"), (Str.ofString "_law_other"), (Str.ofString "_law_base"), (Str.ofString "_law_digits"), (Str.ofString "_law_low"), (Str.ofString "_law_high"), (Str.ofString "_law_one"), (Str.ofString "_law_two")] [(Str.ofString "_law_form"), (Str.ofString "_law_c_here"), (Str.ofString "_law_e")] (defScope (top 37)) := ⟨rfl, rfl, rfl, by decide +kernel, rfl, by decide +kernel, by decide +kernel⟩
theorem ck_law_ends : (ckS b_law_ends ⟨[(Str.ofString "_law_form"), (Str.ofString "_law_c_here"), (Str.ofString "_law_e"), (Str.ofString "_law_below"), (Str.ofString "_law_ends_here"), (Str.ofString "_law_other"), (Str.ofString "_law_base"), (Str.ofString "_law_digits"), (Str.ofString "_law_low"), (Str.ofString "_law_high"), (Str.ofString "_law_one"), (Str.ofString "_law_two")], defScope (top 37), fun _ => true, tb_law_ends.fn.map fun q => (q.1, q.2.1), tb_law_ends.gl.map (·.1), ⟨true, false⟩⟩).ss (defBody (top 37)) = true := by decide +kernel
theorem good_law_ends (c : He.SaysD faL fnL K) (X : K.In h) (G : h.Ns mainGlobals mg) (M : ModG mg base ⟨true, false⟩) (E : exB K = true) : Good P w K mg base 4 (Str.ofString "_law_ends") 3 sp_law_ends := by
  obtain ⟨fd, F⟩ := c.def_ 29 (d := mkD (Str.ofString "_law_ends") (Str.ofString "_law_ends") 37) rfl
  exact def_ok (k := 3) (ps := [(Str.ofString "_law_form"), (Str.ofString "_law_c_here"), (Str.ofString "_law_e")]) tb_law_ends b_law_ends M (.cons ((good_law_to c X G M E).up (by decide)) (.cons ((good_law_next c X G M E).up (by decide)) (.cons ((good_law_size c X G M E).up (by decide)) AllGood.nil))) AllGl.nil F sc_law_ends (F.bindsN fun _ _ _ _ _ _ us hl => match us, hl with | [_, _, _], _ => rfl) (He.glo_ok X G (c.fact 29 (f := .glo (Str.ofString "_law_ends")) rfl)) mono_law_ends pure_law_ends ck_law_ends
theorem sc_law_top : FnScope [(Str.ofString "_law_n"), (Str.ofString "_law_d"), (Str.ofString "_law_e")] [(Str.ofString "_law_n"), (Str.ofString "_law_d")] (defScope (top 38)) := ⟨rfl, rfl, rfl, by decide +kernel, rfl, by decide +kernel, by decide +kernel⟩
theorem ck_law_top : (ckS b_law_top ⟨[(Str.ofString "_law_n"), (Str.ofString "_law_d"), (Str.ofString "_law_e")], defScope (top 38), fun _ => true, tb_law_top.fn.map fun q => (q.1, q.2.1), tb_law_top.gl.map (·.1), ⟨true, false⟩⟩).ss (defBody (top 38)) = true := by decide +kernel
theorem good_law_top (c : He.SaysD faL fnL K) (X : K.In h) (G : h.Ns mainGlobals mg) (M : ModG mg base ⟨true, false⟩) (E : exB K = true) : Good P w K mg base 3 (Str.ofString "_law_top") 2 sp_law_top := by
  obtain ⟨fd, F⟩ := c.def_ 30 (d := mkD (Str.ofString "_law_top") (Str.ofString "_law_top") 38) rfl
  exact def_ok (k := 2) (ps := [(Str.ofString "_law_n"), (Str.ofString "_law_d")]) tb_law_top b_law_top M (.cons ((good_law_compared c X G M E).up (by decide)) (.cons ((good_law_power c X G M E).up (by decide)) AllGood.nil)) AllGl.nil F sc_law_top (F.bindsN fun _ _ _ _ _ _ us hl => match us, hl with | [_, _], _ => rfl) (He.glo_ok X G (c.fact 30 (f := .glo (Str.ofString "_law_top")) rfl)) mono_law_top pure_law_top ck_law_top
theorem sc_law_divisor_by_ten : FnScope [(Str.ofString "_law_d"), (Str.ofString "_law_twos"), (Str.ofString "_law_fives")] [(Str.ofString "_law_d")] (defScope (top 40)) := ⟨rfl, rfl, rfl, by decide +kernel, rfl, by decide +kernel, by decide +kernel⟩
theorem ck_law_divisor_by_ten : (ckS b_law_divisor_by_ten ⟨[(Str.ofString "_law_d"), (Str.ofString "_law_twos"), (Str.ofString "_law_fives")], defScope (top 40), fun _ => true, tb_law_divisor_by_ten.fn.map fun q => (q.1, q.2.1), tb_law_divisor_by_ten.gl.map (·.1), ⟨true, false⟩⟩).ss (defBody (top 40)) = true := by decide +kernel
theorem good_law_divisor_by_ten (c : He.SaysD faL fnL K) (X : K.In h) (G : h.Ns mainGlobals mg) (M : ModG mg base ⟨true, false⟩) (E : exB K = true) : Good P w K mg base 1 (Str.ofString "_law_divisor_by_ten") 1 sp_law_divisor_by_ten := by
  obtain ⟨fd, F⟩ := c.def_ 32 (d := mkD (Str.ofString "_law_divisor_by_ten") (Str.ofString "_law_divisor_by_ten") 40) rfl
  exact def_ok (k := 0) (ps := [(Str.ofString "_law_d")]) tb_law_divisor_by_ten b_law_divisor_by_ten M AllGood.nil AllGl.nil F sc_law_divisor_by_ten (F.bindsN fun _ _ _ _ _ _ us hl => match us, hl with | [_], _ => rfl) (He.glo_ok X G (c.fact 32 (f := .glo (Str.ofString "_law_divisor_by_ten")) rfl)) mono_law_divisor_by_ten pure_law_divisor_by_ten ck_law_divisor_by_ten
theorem sc_law_decimal_near : FnScope [(Str.ofString "_law_bag_here"), (Str.ofString "_law_form"), (Str.ofString "_law_way"), (Str.ofString "_law_number_here"), (Str.ofString "_law_ends_here"), (Str.ofString "_law_many"), (Str.ofString "_law_e"), (Str.ofString "_law_n"), (Str.ofString "_law_d"), (Str.ofString "_law_more"), (Str.ofString "_law_c_here"), (Str.ofString "_law_up"), (Str.ofString "_law_down")] [(Str.ofString "_law_bag_here"), (Str.ofString "_law_form")] (defScope (top 39)) := ⟨rfl, rfl, rfl, by decide +kernel, rfl, by decide +kernel, by decide +kernel⟩
theorem ck_law_decimal_near : (ckS b_law_decimal_near ⟨[(Str.ofString "_law_bag_here"), (Str.ofString "_law_form"), (Str.ofString "_law_way"), (Str.ofString "_law_number_here"), (Str.ofString "_law_ends_here"), (Str.ofString "_law_many"), (Str.ofString "_law_e"), (Str.ofString "_law_n"), (Str.ofString "_law_d"), (Str.ofString "_law_more"), (Str.ofString "_law_c_here"), (Str.ofString "_law_up"), (Str.ofString "_law_down")], defScope (top 39), fun _ => true, tb_law_decimal_near.fn.map fun q => (q.1, q.2.1), tb_law_decimal_near.gl.map (·.1), ⟨true, false⟩⟩).ss (defBody (top 39)) = true := by decide +kernel
theorem good_law_decimal_near (c : He.SaysD faL fnL K) (X : K.In h) (G : h.Ns mainGlobals mg) (M : ModG mg base ⟨true, false⟩) (E : exB K = true) : Good P w K mg base 5 (Str.ofString "_law_decimal_near") 2 sp_law_decimal_near := by
  obtain ⟨fd, F⟩ := c.def_ 31 (d := mkD (Str.ofString "_law_decimal_near") (Str.ofString "_law_decimal_near") 39) rfl
  exact def_ok (k := 4) (ps := [(Str.ofString "_law_bag_here"), (Str.ofString "_law_form")]) tb_law_decimal_near b_law_decimal_near M (.cons ((good_law_take c X G M E).up (by decide)) (.cons ((good_law_some c X G M E).up (by decide)) (.cons ((good_law_number c X G M E).up (by decide)) (.cons ((good_law_ends c X G M E).up (by decide)) (.cons ((good_law_size c X G M E).up (by decide)) (.cons ((good_law_divisor_by_ten c X G M E).up (by decide)) (.cons ((good_law_to c X G M E).up (by decide)) (.cons ((good_law_top c X G M E).up (by decide)) (.cons ((good_law_power c X G M E).up (by decide)) AllGood.nil))))))))) AllGl.nil F sc_law_decimal_near (F.bindsN fun _ _ _ _ _ _ us hl => match us, hl with | [_, _], _ => rfl) (He.glo_ok X G (c.fact 31 (f := .glo (Str.ofString "_law_decimal_near")) rfl)) mono_law_decimal_near pure_law_decimal_near ck_law_decimal_near
theorem sc_law_rank : FnScope [(Str.ofString "_law_form"), (Str.ofString "_law_value"), (Str.ofString "_law_s")] [(Str.ofString "_law_form"), (Str.ofString "_law_value")] (defScope (top 41)) := ⟨rfl, rfl, rfl, by decide +kernel, rfl, by decide +kernel, by decide +kernel⟩
theorem ck_law_rank : (ckS b_law_rank ⟨[(Str.ofString "_law_form"), (Str.ofString "_law_value"), (Str.ofString "_law_s")], defScope (top 41), fun _ => true, tb_law_rank.fn.map fun q => (q.1, q.2.1), tb_law_rank.gl.map (·.1), ⟨true, false⟩⟩).ss (defBody (top 41)) = true := by decide +kernel
theorem good_law_rank (c : He.SaysD faL fnL K) (X : K.In h) (G : h.Ns mainGlobals mg) (M : ModG mg base ⟨true, false⟩) (E : exB K = true) : Good P w K mg base 1 (Str.ofString "_law_rank") 2 sp_law_rank := by
  obtain ⟨fd, F⟩ := c.def_ 33 (d := mkD (Str.ofString "_law_rank") (Str.ofString "_law_rank") 41) rfl
  exact def_ok (k := 0) (ps := [(Str.ofString "_law_form"), (Str.ofString "_law_value")]) tb_law_rank b_law_rank M AllGood.nil AllGl.nil F sc_law_rank (F.bindsN fun _ _ _ _ _ _ us hl => match us, hl with | [_, _], _ => rfl) (He.glo_ok X G (c.fact 33 (f := .glo (Str.ofString "_law_rank")) rfl)) mono_law_rank pure_law_rank ck_law_rank
theorem sc_law_opposite : FnScope [(Str.ofString "_law_outcome"), (Str.ofString "_law_value")] [(Str.ofString "_law_outcome")] (defScope (top 42)) := ⟨rfl, rfl, rfl, by decide +kernel, rfl, by decide +kernel, by decide +kernel⟩
theorem ck_law_opposite : (ckS b_law_opposite ⟨[(Str.ofString "_law_outcome"), (Str.ofString "_law_value")], defScope (top 42), fun _ => true, tb_law_opposite.fn.map fun q => (q.1, q.2.1), tb_law_opposite.gl.map (·.1), ⟨true, false⟩⟩).ss (defBody (top 42)) = true := by decide +kernel
theorem good_law_opposite (c : He.SaysD faL fnL K) (X : K.In h) (G : h.Ns mainGlobals mg) (M : ModG mg base ⟨true, false⟩) (E : exB K = true) : Good P w K mg base 1 (Str.ofString "_law_opposite") 1 sp_law_opposite := by
  obtain ⟨fd, F⟩ := c.def_ 34 (d := mkD (Str.ofString "_law_opposite") (Str.ofString "_law_opposite") 42) rfl
  exact def_ok (k := 0) (ps := [(Str.ofString "_law_outcome")]) tb_law_opposite b_law_opposite M AllGood.nil AllGl.nil F sc_law_opposite (F.bindsN fun _ _ _ _ _ _ us hl => match us, hl with | [_], _ => rfl) (He.glo_ok X G (c.fact 34 (f := .glo (Str.ofString "_law_opposite")) rfl)) mono_law_opposite pure_law_opposite ck_law_opposite
theorem sc_law_row : FnScope [(Str.ofString "_law_bag_here"), (Str.ofString "_law_form"), (Str.ofString "_law_step"), (Str.ofString "_law_s"), (Str.ofString "_law_c_here"), (Str.ofString "_law_e"), (Str.ofString "_law_k")] [(Str.ofString "_law_bag_here"), (Str.ofString "_law_form")] (defScope (top 43)) := ⟨rfl, rfl, rfl, by decide +kernel, rfl, by decide +kernel, by decide +kernel⟩
theorem ck_law_row : (ckS b_law_row ⟨[(Str.ofString "_law_bag_here"), (Str.ofString "_law_form"), (Str.ofString "_law_step"), (Str.ofString "_law_s"), (Str.ofString "_law_c_here"), (Str.ofString "_law_e"), (Str.ofString "_law_k")], defScope (top 43), fun _ => true, tb_law_row.fn.map fun q => (q.1, q.2.1), tb_law_row.gl.map (·.1), ⟨true, false⟩⟩).ss (defBody (top 43)) = true := by decide +kernel
theorem good_law_row (c : He.SaysD faL fnL K) (X : K.In h) (G : h.Ns mainGlobals mg) (M : ModG mg base ⟨true, false⟩) (E : exB K = true) : Good P w K mg base 6 (Str.ofString "_law_row") 2 sp_law_row := by
  obtain ⟨fd, F⟩ := c.def_ 35 (d := mkD (Str.ofString "_law_row") (Str.ofString "_law_row") 43) rfl
  exact def_ok (k := 5) (ps := [(Str.ofString "_law_bag_here"), (Str.ofString "_law_form")]) tb_law_row b_law_row M (.cons ((good_law_decimal_near c X G M E).up (by decide)) (.cons ((good_law_take c X G M E).up (by decide)) (.cons ((good_law_some c X G M E).up (by decide)) AllGood.nil))) AllGl.nil F sc_law_row (F.bindsN fun _ _ _ _ _ _ us hl => match us, hl with | [_, _], _ => rfl) (He.glo_ok X G (c.fact 35 (f := .glo (Str.ofString "_law_row")) rfl)) mono_law_row pure_law_row ck_law_row
theorem sc_law : FnScope [(Str.ofString "_law_script"), (Str.ofString "_law_bag_here"), (Str.ofString "_law_ways"), (Str.ofString "_law_turned"), (Str.ofString "_law_turn"), (Str.ofString "_law_form"), (Str.ofString "_law_row_here"), (Str.ofString "_law_told"), (Str.ofString "_law_some_here"), (Str.ofString "_law_ranks"), (Str.ofString "_law_at"), (Str.ofString "_law_one"), (Str.ofString "_law_other"), (Str.ofString "_law_here"), (Str.ofString "_law_way"), (Str.ofString "_law_low"), (Str.ofString "_law_high")] [(Str.ofString "_law_script")] (defScope (top 44)) := ⟨rfl, rfl, rfl, by decide +kernel, rfl, by decide +kernel, by decide +kernel⟩
theorem ck_law : (ckS b_law ⟨[(Str.ofString "_law_script"), (Str.ofString "_law_bag_here"), (Str.ofString "_law_ways"), (Str.ofString "_law_turned"), (Str.ofString "_law_turn"), (Str.ofString "_law_form"), (Str.ofString "_law_row_here"), (Str.ofString "_law_told"), (Str.ofString "_law_some_here"), (Str.ofString "_law_ranks"), (Str.ofString "_law_at"), (Str.ofString "_law_one"), (Str.ofString "_law_other"), (Str.ofString "_law_here"), (Str.ofString "_law_way"), (Str.ofString "_law_low"), (Str.ofString "_law_high")], defScope (top 44), fun _ => true, tb_law.fn.map fun q => (q.1, q.2.1), tb_law.gl.map (·.1), ⟨true, false⟩⟩).ss (defBody (top 44)) = true := by decide +kernel
theorem fn_law {fd : FuncData} (F : FunD K "law" "law" (defArgs (top 44)) (defBody (top 44)) (defScope (top 44)) [] [] (He.ga K "law") fd) (c : He.SaysD faL fnL K) (X : K.In h) (G : h.Ns mainGlobals mg) (M : ModG mg base ⟨true, false⟩) (E : exB K = true) : FnOkG P w K mg base 7 (He.ga K "law") fd [(Str.ofString "_law_script")] (spG K 1 sp_law) :=
  def_fn (k := 6) tb_law b_law M (.cons ((good_law_bag c X G M E).up (by decide)) (.cons ((good_law_format c X G M E).up (by decide)) (.cons ((good_law_row c X G M E).up (by decide)) (.cons ((good_read_decimal c X G M E).up (by decide)) (.cons ((good_law_rank c X G M E).up (by decide)) (.cons ((good_law_opposite c X G M E).up (by decide)) AllGood.nil)))))) AllGl.nil F sc_law pure_law ck_law
end
end VI
open PySem PySem.W PySem.Calls PyProof.Rows
theorem PySem.Challenge.cw_nearestheld_k36_whole_reading_never_fall_holds : PySem.Challenge.rw_nearestheld_k36_whole_reading_never_fall.Holds := by
  w_on; o_law
  refine HandSHeadRun.head_imp (r := OpenLaw.row PySem.Challenge.rw_nearestheld_k36_whole_reading_never_fall) (q := view (OpenLaw.row PySem.Challenge.rw_nearestheld_k36_whole_reading_never_fall).prog [0, 44]) (H := VI.Hd.hk) (ob := VI.Hd.ob) (M := 20000) (loose := VI.Hd.loose) (d := HandSHeadRun.topDef (OpenLaw.row PySem.Challenge.rw_nearestheld_k36_whole_reading_never_fall).prog 44) (kwd := []) VI.Hd.ob_eq
    VI.Hd.runs (by kernel_rfl) (by kernel_rfl) (by kernel_rfl) (by rfl) (by first | assumption | decide +kernel) VI.Hd.okS VI.Hd.bareS ?hw ?hc
  case hw => w_witness2
  case hc =>
    refine VI.walk_ofG (l := PySem.Challenge.rw_nearestheld_k36_whole_reading_never_fall) (n := 63) (k := 7) (x := ("_law_script" : PySem.Str)) (f := VI.sp_law) rfl (by decide) (by kernel_rfl) ⟨rfl, by decide, by decide⟩ VI.mono_law ?F VI.plain_law
    intro w mg fa h Y G hmg0
    obtain ⟨K, KX, sx⟩ := Y
    have c := sx.t.d
    have hmg : mg ("law" : PySem.Str) = some (.ref fa) := by
      have e : (HandSHeadRun.topDef (OpenLaw.row PySem.Challenge.rw_nearestheld_k36_whole_reading_never_fall).prog 44).name = ("law" : PySem.Str) := by kernel_rfl
      rw [← e]
      exact hmg0
    obtain ⟨fd, F⟩ := c.def_ 36 (d := VI.Hd.mkD "law" "law" 44) rfl
    have e := hmg.symm.trans (He.glo_ok KX G (c.fact 36 (f := .glo "law") rfl))
    cases e
    have b := L2.FunD.bindsA (ps := [("_law_script" : PySem.Str)]) F fun _ _ _ _ _ _ us hl => match us, hl with | [_], _ => rfl
    refine ⟨K, fd, KX, fun s v => b s [v] rfl, fun base _ _ nd => VI.fn_law F c KX G ⟨fun x hx => He.free_ok KX G (He.SaysD.facts c (f := .free x) (List.mem_append_right _ (List.mem_map.mpr ⟨x, hx, rfl⟩))), fun _ => PySem.W.mg_of KX G (He.eqO_ok (VI.band sx.more).1), (fun z => nomatch z), nd⟩ sx.more⟩
