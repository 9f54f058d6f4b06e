import PyProof.Rows.All
import Wide.All
import OpenK.AllK
import Wide.FinOn
import KE.KStateDown
import Lean
import HandS.ForMost
import HandS.Wide
import HandS.Gcd
import HandS.Style
import HandS.TupAny
import HandS.Deep
import KE.DataEq
import HandS.TupMul
import Flt.RightSqrt
import HandS.Zip
import PyProof.MaxThree
import HandS.Iter
import HandS.Flow
import HandS.Comp
import HandS.RaiseMore
import HandS.IsInst
import HandS.Words
import KE.KStar
import HandS.TryOnly
import HandS.Set
import HandS.SetFor
import HandS.Strs
import HandS.More
import HandS.TupSets
import KE.SortCalls
import PyProof.WalksMore
import HandS.SortInts
import HandS.Star
import HandS.Conv
import PyProof.Draws
import HandS.Defaults
import HandS.HeadEnd
import HandS.HeadHook4
import HandS.Base
import HandS.Call
import HandS.Ends
import HandS.WordsExc
import HandS.Head0
import HandS.Head1
import HandS.Head2
import HandS.HeadHook1
import HandS.HeadHook2
import HandS.HeadHook3
import HandS.Head3
import PySem.Challenge.RW_nearestheld_k71_boxes_parted
set_option Elab.async false
set_option linter.all false
set_option maxRecDepth 100000
set_option maxHeartbeats 0
namespace VI
open PySem PySem.Spec PyProof.Rows L2
abbrev D := PyData
mutual
def repB (K : PySem.W.Frag) : D → Value → Bool
  | .none, .none => true
  | .bool a, .bool b => a == b
  | .int i, .int j _ => decide (i = j)
  | .str x, .str y _ => decide (x = y)
  | .tuple ds, .ref a => (match K.lookup a with
    | some ⟨.type c, _, .seq its _, _⟩ => decide (c = "tuple") && (decide (its.size ≤ 1000) && repsB K ds its.toList)
    | _ => false)
  | _, _ => false
def repsB (K : PySem.W.Frag) : List D → List Value → Bool
  | [], [] => true
  | d :: ds, v :: vs => repB K d v && repsB K ds vs
  | _, _ => false
end
def conB (K : PySem.W.Frag) (x : Str) (d : D) : Bool := match PySem.W.nsIn K mainGlobals x with
  | some (some u) => repB K d u
  | _ => false
def bltNames : List Str := ["len", "abs", "int", "min", "max", "all", "any", "tuple", "list", "repr", "range", "enumerate", "zip", "str", "bool", "isinstance", "sorted", "set"]
namespace Hd
def top (i : Nat) : Stmt := PySem.Challenge.pw_nearestheld_k71_boxes_parted.main.body.getD i (.Pass ⟨0, 0, 0, 0⟩)
def mkD (x n : Str) (i : Nat) : He.DefD := ⟨(x, none), n, n, defArgs (top i), defBody (top i), defScope (top i), [], []⟩
def fnL : List He.DefD := [mkD (Str.ofString "whole_power") (Str.ofString "whole_power") 1, mkD (Str.ofString "rank_in") (Str.ofString "rank_in") 2, mkD (Str.ofString "rank_of") (Str.ofString "rank_of") 5, mkD (Str.ofString "value_at") (Str.ofString "value_at") 6, mkD (Str.ofString "ranks_apart") (Str.ofString "ranks_apart") 8, mkD (Str.ofString "middle_of") (Str.ofString "middle_of") 9, mkD (Str.ofString "widest") (Str.ofString "widest") 10, mkD (Str.ofString "parted_box") (Str.ofString "parted_box") 11, mkD (Str.ofString "_law_bag") (Str.ofString "_law_bag") 13, mkD (Str.ofString "_law_take") (Str.ofString "_law_take") 14, mkD (Str.ofString "_law_some") (Str.ofString "_law_some") 15, mkD (Str.ofString "_law_alike") (Str.ofString "_law_alike") 16, mkD (Str.ofString "_law_common") (Str.ofString "_law_common") 17, mkD (Str.ofString "_law_to") (Str.ofString "_law_to") 18, mkD (Str.ofString "_law_over") (Str.ofString "_law_over") 19, mkD (Str.ofString "_law_multiplied") (Str.ofString "_law_multiplied") 20, mkD (Str.ofString "_law_is_below") (Str.ofString "_law_is_below") 21, mkD (Str.ofString "_law_power") (Str.ofString "_law_power") 22, mkD (Str.ofString "_law_worth") (Str.ofString "_law_worth") 23, mkD (Str.ofString "_law_formats") (Str.ofString "_law_formats") 24, mkD (Str.ofString "_law_wide_format") (Str.ofString "_law_wide_format") 25, mkD (Str.ofString "_law_any_format") (Str.ofString "_law_any_format") 26, mkD (Str.ofString "_law_edges") (Str.ofString "_law_edges") 27, mkD (Str.ofString "_law_number") (Str.ofString "_law_number") 28, mkD (Str.ofString "_law_near_number") (Str.ofString "_law_near_number") 29, mkD (Str.ofString "_law_placed") (Str.ofString "_law_placed") 30, mkD (Str.ofString "_law_is_not_above") (Str.ofString "_law_is_not_above") 31, mkD (Str.ofString "_law_span") (Str.ofString "_law_span") 32, mkD (Str.ofString "_law_box") (Str.ofString "_law_box") 33, mkD (Str.ofString "_law_rank") (Str.ofString "_law_rank") 34, mkD (Str.ofString "_law_ranked") (Str.ofString "_law_ranked") 35, mkD (Str.ofString "_law_middle") (Str.ofString "_law_middle") 36, mkD (Str.ofString "_law_widest") (Str.ofString "_law_widest") 37, mkD (Str.ofString "_law_parted") (Str.ofString "_law_parted") 38, mkD (Str.ofString "_law_full_box") (Str.ofString "_law_full_box") 39, mkD (Str.ofString "law") (Str.ofString "law") 40]
def faL : List He.Fa := [.glo (Str.ofString "whole_power"), .glo (Str.ofString "rank_in"), .glo (Str.ofString "rank_of"), .glo (Str.ofString "value_at"), .glo (Str.ofString "ranks_apart"), .glo (Str.ofString "middle_of"), .glo (Str.ofString "widest"), .glo (Str.ofString "parted_box"), .glo (Str.ofString "_law_bag"), .glo (Str.ofString "_law_take"), .glo (Str.ofString "_law_some"), .glo (Str.ofString "_law_alike"), .glo (Str.ofString "_law_common"), .glo (Str.ofString "_law_to"), .glo (Str.ofString "_law_over"), .glo (Str.ofString "_law_multiplied"), .glo (Str.ofString "_law_is_below"), .glo (Str.ofString "_law_power"), .glo (Str.ofString "_law_worth"), .glo (Str.ofString "_law_formats"), .glo (Str.ofString "_law_wide_format"), .glo (Str.ofString "_law_any_format"), .glo (Str.ofString "_law_edges"), .glo (Str.ofString "_law_number"), .glo (Str.ofString "_law_near_number"), .glo (Str.ofString "_law_placed"), .glo (Str.ofString "_law_is_not_above"), .glo (Str.ofString "_law_span"), .glo (Str.ofString "_law_box"), .glo (Str.ofString "_law_rank"), .glo (Str.ofString "_law_ranked"), .glo (Str.ofString "_law_middle"), .glo (Str.ofString "_law_widest"), .glo (Str.ofString "_law_parted"), .glo (Str.ofString "_law_full_box"), .glo (Str.ofString "law")] ++ bltNames.map He.Fa.free
def exB (K : PySem.W.Frag) : Bool := conB K (Str.ofString "NONE") (.tuple [.str (Str.ofString "none")]) && (true)
def loose : List Str := ([Str.ofString "whole_power", Str.ofString "rank_in", Str.ofString "NONE", Str.ofString "rank_of", Str.ofString "value_at", Str.ofString "ranks_apart", Str.ofString "middle_of", Str.ofString "widest", Str.ofString "parted_box", Str.ofString "_law_bag", Str.ofString "_law_take", Str.ofString "_law_some", Str.ofString "_law_alike", Str.ofString "_law_common", Str.ofString "_law_to", Str.ofString "_law_over", Str.ofString "_law_multiplied", Str.ofString "_law_is_below", Str.ofString "_law_power", Str.ofString "_law_worth", Str.ofString "_law_formats", Str.ofString "_law_wide_format", Str.ofString "_law_any_format", Str.ofString "_law_edges", Str.ofString "_law_number", Str.ofString "_law_near_number", Str.ofString "_law_placed", Str.ofString "_law_is_not_above", Str.ofString "_law_span", Str.ofString "_law_box", Str.ofString "_law_rank", Str.ofString "_law_ranked", Str.ofString "_law_middle", Str.ofString "_law_widest", Str.ofString "_law_parted"] : List Str) ++ ([Str.ofString "_law_full_box"] : List Str)
abbrev R : PySem.W.OpenRow := PySem.W.OpenLaw.row PySem.Challenge.rw_nearestheld_k71_boxes_parted
abbrev hk : PySem.W.Hook := He.hookX 2 faL fnL [] [] exB
def ob (s : PySem.W.SharedT) : He.AlX := He.obsX 2 faL fnL [] [] exB (HandSHeadRun.getT s)
theorem ob_eq (s : PySem.W.SharedT) : ob s = hk.obs s.abs := He.obsX_eq (HandSHeadRun.getT_eq s)
theorem runs (w : World) : HandSHeadRun.RunEq R (PySem.W.view R.prog [40]) hk ob 4000 loose w := by
  intro os
  kernel_rfl
end Hd
end VI
/-! VI1: plain data, the small language, what it means (predicate transformers). -/
namespace VI
open PySem

/-- what an expression gives: data; a list of the frame's own that may change; a list that outlives the frame -/
inductive EV where
  | d (x : D) | lm (n : Nat) | gm (n : Nat) | sc (xs : List D)
/-- the lists that may change -/
structure Sto where
  g : List (List D)
  l : List (Option (List D))
abbrev En := List (Option EV)
abbrev KE := EV → Sto → Prop
/-- what a def means: arguments, outliving lists, what is wanted -/
abbrev Sem := List EV → List (List D) → (EV → List (List D) → Prop) → Prop
structure Tb where
  fn : List (Str × Nat × Sem)
  gl : List (Str × D)
def Tb.sem (tb : Tb) (k : Nat) : Sem := match tb.fn[k]? with
  | some q => q.2.2
  | none => fun _ _ _ => False

/-- both ways -/
def brP (x : Bool) (a b : Prop) : Prop := (x = true → a) ∧ (x = false → b)
theorem brT {a b : Prop} (h : a) : brP true a b := ⟨fun _ => h, fun z => Bool.noConfusion z⟩
theorem brF {a b : Prop} (h : b) : brP false a b := ⟨fun z => Bool.noConfusion z, fun _ => h⟩
theorem brT' {a b : Prop} (h : brP true a b) : a := h.1 rfl
theorem brF' {a b : Prop} (h : brP false a b) : b := h.2 rfl
def look : En → Nat → Option EV
  | [], _ => none
  | a :: _, 0 => a
  | _ :: r, n + 1 => look r n
def put : En → Nat → EV → En
  | [], _, _ => []
  | _ :: r, 0, v => some v :: r
  | a :: r, n + 1, v => a :: put r n v
def wipeE (env : En) : List Nat → En
  | [] => env
  | v :: vs => (wipeE env vs).set v none

inductive BOp where
  | add | sub | mul | fdiv | mod | pow | fdivw
  deriving DecidableEq
inductive COp where
  | lt | le | gt | ge | eq | ne | isin | notin
  deriving DecidableEq
inductive Blt where
  | str | len | abs | int | min2 | max2 | gcd | isqrt | all | any | tuple | list | repr | min3 | max3 | maxL | minL
  deriving DecidableEq
inductive Ty where
  | tuple | list | str | int | bool
  deriving DecidableEq
inductive IE where
  | cst (d : D) | var (i : Nat) | glo (k : Nat)
  | bin (o : BOp) (a b : IE) | neg (a : IE) | nt (a : IE)
  | cmp (o : COp) (a b : IE) | cmp2 (o p : COp) (a b c : IE) | isN (a : IE) | notN (a : IE)
  | an (a b : IE) | oo (a b : IE) | ife (c a b : IE)
  | nil | cons (a r : IE)
  | tup (r : IE) | lst (kd : Nat) (r : IE)
  | ixc (a : IE) (n : Nat) | ix (a i : IE) | sl (kd : Nat) (a lo hi : IE)
  | call (k : Nat) (r : IE) | blt (b : Blt) (kd : Nat) (r : IE)
  | cmpr (kd : Nat) (own : List Nat) (tg it c e : IE)
  | rng (r : IE) | enm (r : IE) | zp (r : IE)
  | isi (a : IE) (t : Ty) | scons (a r : IE) | tupS (r : IE) | lstS (kd : Nat) (r : IE)
  | srs (kd : Nat) (a : IE) | srl (kd : Nat) (a : IE) | lop (kd : Nat) (o : BOp) (a b : IE)
  | idx (a e : IE) | dget (ks : List (Str × D)) (a b : IE)
  | callS (k ar : Nat) (r : IE) | cmpr2 (kd : Nat) (own : List Nat) (tg it c tg1 it1 c1 e : IE) | isB (neg : Bool) (a b : IE)
  | sri (kd : Nat) (a : IE) | ssi (kd : Nat) (a : IE) | rgv (tp : Bool) (kd : Nat) (a : IE)
inductive IS where
  | skip | seq (a b : IS) | asg (t e : IE) | aug (o : BOp) (i : Nat) (e : IE) | augS (o : BOp) (a i e : IE) | setI (a i e : IE)
  | app (a e : IE) | ext (a e : IE) | ins (a i e : IE) | exp (e : IE)
  | ifs (c : IE) (a b : IS) | whl (c : IE) (b : IS) | fr (t it : IE) (b : IS)
  | ret (e : IE) | ret0 | brk | cont | never | freeze (i : Nat) | par (is : List Nat) (r : IE)

/-- pieces -/
def cutD {α : Type} (xs : List α) (lo hi : Option Int) : List α := (xs.drop (HT.sIx xs.length 0 lo)).take (HT.sIx xs.length xs.length hi - HT.sIx xs.length 0 lo)
def newL (kd : Nat) (xs : List D) (st : Sto) (k : KE) : Prop := match kd with
  | 0 => k (.d (.list xs)) st
  | 1 => k (.lm st.l.length) ⟨st.g, st.l ++ [some xs]⟩
  | _ => k (.gm st.g.length) ⟨st.g ++ [xs], st.l⟩
/-- the items of a list (true) or a tuple (false) -/
def seqE (ev : EV) (st : Sto) (k : Bool → List D → Prop) : Prop := match ev with
  | .d (.list xs) => k true xs
  | .d (.tuple xs) => k false xs
  | .lm n => (match st.l[n]? with
    | some (some xs) => k true xs
    | _ => False)
  | .gm n => (match st.g[n]? with
    | some xs => k true xs
    | none => False)
  | .sc xs => k true xs
  | _ => False
def truE (ev : EV) (st : Sto) (k : Bool → Prop) : Prop := match ev with
  | .d .none => k false
  | .d (.bool b) => k b
  | .d (.int i) => k (i != 0)
  | .d (.str x) => x.length ≤ sizeLine ∧ k (x.length != 0)
  | ev => seqE ev st fun _ xs => k (!xs.isEmpty)
def dE (ev : EV) (k : D → Prop) : Prop := match ev with
  | .d x => k x
  | _ => False
def allD : List EV → (List D → Prop) → Prop
  | [], k => k []
  | .d x :: r, k => allD r fun xs => k (x :: xs)
  | _ :: _, _ => False
/-- arguments: none is a list of the frame's own -/
def argsK : List EV → Prop → Prop
  | [], p => p
  | .lm _ :: _, _ => False
  | .d _ :: r, p => argsK r p
  | .gm _ :: r, p => argsK r p
  | .sc _ :: r, p => argsK r p
def MulOk (i j : Int) : Prop := i.natAbs.log2 + j.natAbs.log2 < 1000000
def DivOk (j : Int) : Prop := 0 < j ∧ j.natAbs.log2 < 9000
def binK (o : BOp) (x y : EV) (k : EV → Prop) : Prop := match o, x, y with
  | .add, .d (.int i), .d (.int j) => k (.d (.int (i + j)))
  | .sub, .d (.int i), .d (.int j) => k (.d (.int (i - j)))
  | .mul, .d (.int i), .d (.int j) => MulOk i j ∧ k (.d (.int (i * j)))
  | .fdiv, .d (.int i), .d (.int j) => (j ≠ 0 ∧ j.natAbs.log2 < 9000) ∧ k (.d (.int (i.fdiv j)))
  | .fdivw, .d (.int i), .d (.int j) => (j ≠ 0 ∧ (j.natAbs.log2 < 9000 ∨ i.natAbs.log2 ≤ j.natAbs.log2 + 4400)) ∧ k (.d (.int (i.fdiv j)))
  | .mod, .d (.int i), .d (.int j) => 0 < j ∧ k (.d (.int (i % j)))
  | .pow, .d (.int i), .d (.int j) => (0 ≤ j ∧ j ≤ 1000000 ∧ i.natAbs < 2 ^ 64) ∧ k (.d (.int (i ^ j.toNat)))
  | .add, .d (.tuple a), .d (.tuple b) => a.length + b.length ≤ 1000000 ∧ k (.d (.tuple (a ++ b)))
  | .add, .d (.list a), .d (.list b) => a.length + b.length ≤ 1000000 ∧ k (.d (.list (a ++ b)))
  | .add, .d (.str a), .d (.str b) => a.length + b.length ≤ 1000000 ∧ k (.d (.str (a ++ b)))
  | .mul, .d (.list a), .d (.int n) => (0 ≤ n ∧ n ≤ 1000000 ∧ a.length * n.toNat ≤ 1000000) ∧ k (.d (.list (List.replicate n.toNat a).flatten))
  | .sub, .d (.bool i), .d (.bool j) => k (.d (.int ((if i = true then 1 else 0) - (if j = true then 1 else 0))))
  | .mul, .d (.tuple a), .d (.int n) => ∃ b : Bool, n = (if b = true then 1 else 0) ∧ k (.d (.tuple (if b = true then a else [])))
  | _, _, _ => False
/-- x op= y: as x op y, where x is an int -/
def augK (o : BOp) (x y : EV) (k : EV → Prop) : Prop := (match x with
  | .d (.int _) => True
  | _ => False) ∧ o ≠ .pow ∧ binK o x y k
def Shp (x : D) : Prop := SeqAt.shaped x = true
/-- two ints, two strs -/
def flatP : D → D → Bool
  | .int _, .int _ => true
  | .str _, .str _ => true
  | _, _ => false
def isStr : D → Bool
  | .str _ => true
  | _ => false
/-- a str among strs -/
def inP (x : D) (ys : List D) : Bool := isStr x && ys.all isStr
def isiD : D → Ty → Bool
  | .bool _, .bool => true
  | .bool _, .int => true
  | .int _, .int => true
  | .str _, .str => true
  | .list _, .list => true
  | .tuple _, .tuple => true
  | _, _ => false
def cmpK (o : COp) (x y : EV) (st : Sto) (k : Bool → Prop) : Prop := match o, x, y with
  | .lt, .d (.int i), .d (.int j) => k (decide (i < j))
  | .le, .d (.int i), .d (.int j) => k (decide (i ≤ j))
  | .gt, .d (.int i), .d (.int j) => k (decide (j < i))
  | .ge, .d (.int i), .d (.int j) => k (decide (j ≤ i))
  | .eq, .d x, .d y => (flatP x y = true ∨ Shp x ∧ Shp y) ∧ k (PyData.eqv x y)
  | .ne, .d x, .d y => (flatP x y = true ∨ Shp x ∧ Shp y) ∧ k (!PyData.eqv x y)
  | .isin, .d x, .d (.tuple ys) => (inP x ys = true ∨ Shp x ∧ Shp (.tuple ys)) ∧ k (ys.any fun z => PyData.eqv z x)
  | .notin, .d x, .d (.tuple ys) => (inP x ys = true ∨ Shp x ∧ Shp (.tuple ys)) ∧ k (!ys.any fun z => PyData.eqv z x)
  | .isin, .d x, .d (.list ys) => Shp x ∧ Shp (.list ys) ∧ k (ys.any fun z => PyData.eqv z x)
  | .notin, .d x, .d (.list ys) => Shp x ∧ Shp (.list ys) ∧ k (!ys.any fun z => PyData.eqv z x)
  | _, _, _ => False
def isNonD : D → Bool
  | .none => true
  | _ => false
def boolsE : List D → (List Bool → Prop) → Prop
  | [], k => k []
  | .bool b :: r, k => boolsE r fun bs => k (b :: bs)
  | _ :: _, _ => False
mutual
/-- every int has fewer than 4,300 digits -/
def showB : PyData → Bool
  | .none | .bool _ | .str _ => true
  | .int i => decide (i.natAbs < 10 ^ 4300)
  | .list xs | .tuple xs => showBs xs
  | .dict _ => false
def showBs : List PyData → Bool
  | [] => true
  | x :: xs => showB x && showBs xs
end
def RepOk (x : D) : Prop := Shp x ∧ showB x = true ∧ x.shown.length ≤ 16000000
def bltK (b : Blt) (kd : Nat) (r : List EV) (st : Sto) (k : KE) : Prop := match b, r with
  | .str, [.d (.int i)] => i.natAbs.log2 < 1920 ∧ k (.d (.str (toString i))) st
  | .str, [.d (.str x)] => k (.d (.str x)) st
  | .len, [.d (.str x)] => x.length ≤ sizeLine ∧ k (.d (.int x.length)) st
  | .len, [ev] => seqE ev st fun _ xs => k (.d (.int xs.length)) st
  | .abs, [.d (.int i)] => k (.d (.int i.natAbs)) st
  | .int, [.d (.int i)] => k (.d (.int i)) st
  | .int, [.d (.bool b)] => k (.d (.int (if b = true then 1 else 0))) st
  | .min2, [.d (.int i), .d (.int j)] => k (.d (.int (min i j))) st
  | .max2, [.d (.int i), .d (.int j)] => k (.d (.int (max i j))) st
  | .gcd, [.d (.int i), .d (.int j)] => k (.d (.int (Int.gcd i j))) st
  | .isqrt, [.d (.int i)] => (0 ≤ i ∧ i.natAbs.log2 < 13000) ∧ ∀ r : Int, 0 ≤ r → r * r ≤ i → i < (r + 1) * (r + 1) → k (.d (.int r)) st
  | .all, [ev] => seqE ev st fun b xs => b = true ∧ boolsE xs fun bs => k (.d (.bool (bs.all id))) st
  | .any, [ev] => seqE ev st fun b xs => b = true ∧ boolsE xs fun bs => k (.d (.bool (bs.any id))) st
  | .tuple, [ev] => seqE ev st fun _ xs => k (.d (.tuple xs)) st
  | .list, [ev] => seqE ev st fun _ xs => newL kd xs st k
  | .repr, [.d x] => RepOk x ∧ k (.d (.str x.shown)) st
  | .min3, [.d (.int i), .d (.int j), .d (.int m)] => k (.d (.int (min i (min j m)))) st
  | .max3, [.d (.int i), .d (.int j), .d (.int m)] => k (.d (.int (max i (max j m)))) st
  | .maxL, [.d (.list xs)] => ∃ ns : List Int, (xs = ns.map PyData.int ∧ ns ≠ []) ∧ ∀ m, m ∈ ns → (∀ y, y ∈ ns → y ≤ m) → k (.d (.int m)) st
  | .minL, [.d (.list xs)] => ∃ ns : List Int, (xs = ns.map PyData.int ∧ ns ≠ []) ∧ ∀ m, m ∈ ns → (∀ y, y ∈ ns → m ≤ y) → k (.d (.int m)) st
  | _, _ => False

/-- what a piece means -/
structure SE where
  e : En → Sto → KE → Prop
  t : En → Sto → (Bool → Sto → Prop) → Prop
  l : En → Sto → (List EV → Sto → Prop) → Prop
  i : En → Sto → (List D → Sto → Prop) → Prop
  a : EV → En → (En → Prop) → Prop
  al : List D → En → (En → Prop) → Prop
  o : En → Sto → (Option Int → Sto → Prop) → Prop
def noSE : SE where
  e := fun _ _ _ => False
  t := fun _ _ _ => False
  l := fun _ _ _ => False
  i := fun _ _ _ => False
  a := fun _ _ _ => False
  al := fun _ _ _ => False
  o := fun _ _ _ => False
def ofE (f : En → Sto → KE → Prop) : SE where
  e := f
  t := fun env st k => f env st fun ev st => truE ev st fun b => k b st
  l := fun _ _ _ => False
  i := fun env st k => f env st fun ev st => match ev with
    | .d (.list xs) => k xs st
    | .d (.tuple xs) => k xs st
    | .sc xs => k xs st
    | _ => False
  a := fun _ _ _ => False
  al := fun _ _ _ => False
  o := fun env st k => f env st fun ev st => match ev with
    | .d (.int n) => k (some n) st
    | _ => False
/-- what gives a truth -/
def ofB (f : En → Sto → (Bool → Sto → Prop) → Prop) : SE where
  e := fun env st k => f env st fun b st => k (.d (.bool b)) st
  t := f
  l := fun _ _ _ => False
  i := fun _ _ _ => False
  a := fun _ _ _ => False
  al := fun _ _ _ => False
  o := fun _ _ _ => False
def ofI (f : En → Sto → (List D → Sto → Prop) → Prop) : SE where
  e := fun _ _ _ => False
  t := fun _ _ _ => False
  l := fun _ _ _ => False
  i := f
  a := fun _ _ _ => False
  al := fun _ _ _ => False
  o := fun _ _ _ => False
def upto (lo : Int) (n : Nat) : List D := (List.range n).map fun i => .int (lo + (i : Nat))
def downto (hi : Int) (n : Nat) : List D := (List.range n).map fun i => .int (hi - (i : Nat))
def rngK (r : List EV) (st : Sto) (k : List D → Sto → Prop) : Prop := match r with
  | [.d (.int n)] => (-(2 ^ 62) ≤ n ∧ n < 2 ^ 62) ∧ k (upto 0 n.toNat) st
  | [.d (.int a), .d (.int b)] => (-(2 ^ 62) ≤ a ∧ a < 2 ^ 62 ∧ -(2 ^ 62) ≤ b ∧ b < 2 ^ 62) ∧ k (upto a (b - a).toNat) st
  | [.d (.int a), .d (.int b), .d (.int c)] => (c = -1 ∧ -(2 ^ 62) ≤ a ∧ a < 2 ^ 62 ∧ -(2 ^ 62) ≤ b ∧ b < 2 ^ 62) ∧ k (downto a (a - b).toNat) st
  | _ => False
def enmK (r : List EV) (st : Sto) (k : List D → Sto → Prop) : Prop := match r with
  | [.d (.list xs)] => k (xs.mapIdx fun i x => .tuple [.int (i : Nat), x]) st
  | [.d (.tuple xs)] => k (xs.mapIdx fun i x => .tuple [.int (i : Nat), x]) st
  | _ => False
def zpK (r : List EV) (st : Sto) (k : List D → Sto → Prop) : Prop := match r with
  | [.d (.list xs), .d (.list ys)] => k (List.zipWith (fun x y => .tuple [x, y]) xs ys) st
  | [.d (.tuple xs), .d (.tuple ys)] => k (List.zipWith (fun x y => .tuple [x, y]) xs ys) st
  | _ => False
/-- a new list by + and * -/
def lopK (kd : Nat) (o : BOp) (x y : EV) (st : Sto) (k : KE) : Prop := match o, x, y with
  | .add, .d (.list a), .d (.list b) => a.length + b.length ≤ 1000000 ∧ newL kd (a ++ b) st k
  | .mul, .d (.list a), .d (.int n) => (0 ≤ n ∧ n ≤ 1000000 ∧ a.length * n.toNat ≤ 1000000) ∧ newL kd (List.replicate n.toNat a).flatten st k
  | _, _, _ => False
/-- the texts of a list, each once, in their order -/
def SrtOf (ts ys : List Str) : Prop := PyProof.Rows.sortedS ys = true ∧ ys.Nodup ∧ ∀ t, t ∈ ys ↔ t ∈ ts
def srsK (kd : Nat) (x : EV) (st : Sto) (k : KE) : Prop := match x with
  | .d (.list xs) => ∃ ts : List Str, (xs = ts.map PyData.str ∧ ts.length < 64) ∧ ∀ ys, SrtOf ts ys → newL kd (ys.map PyData.str) st k
  | .d (.tuple xs) => ∃ ts : List Str, (xs = ts.map PyData.str ∧ ts.length < 64) ∧ ∀ ys, SrtOf ts ys → newL kd (ys.map PyData.str) st k
  | _ => False
/-- the texts of a list in their order -/
def SrlOf (ts ys : List Str) : Prop := PyProof.Rows.sortedS ys = true ∧ ys.Perm ts
def srlK (kd : Nat) (x : EV) (st : Sto) (k : KE) : Prop := match x with
  | .d (.list xs) => ∃ ts : List Str, (xs = ts.map PyData.str ∧ ts.length < 64) ∧ ∀ ys, SrlOf ts ys → newL kd (ys.map PyData.str) st k
  | _ => False
/-- ints in their order -/
def SriOf (ns ys : List Int) : Prop := ys.Perm ns ∧ ys.Pairwise (· ≤ ·)
def sriK (kd : Nat) (x : EV) (st : Sto) (k : KE) : Prop := match x with
  | .d (.list xs) => ∃ ns : List Int, xs = ns.map PyData.int ∧ ∀ ys, SriOf ns ys → newL kd (ys.map PyData.int) st k
  | _ => False
/-- ints in their order, each once -/
def SsiOf (ns ys : List Int) : Prop := ys.Pairwise (· < ·) ∧ ∀ n, n ∈ ys ↔ n ∈ ns
def ssiK (kd : Nat) (x : EV) (st : Sto) (k : KE) : Prop := match x with
  | .d (.list xs) => ∃ ns : List Int, (xs = ns.map PyData.int ∧ ns.length < 64) ∧ ∀ ys, SsiOf ns ys → newL kd (ys.map PyData.int) st k
  | _ => False
/-- a list or a tuple of a range -/
def rgvK (tp : Bool) (kd : Nat) (r : EV) (st : Sto) (k : KE) : Prop := match r with
  | .d (.int n) => (-(2 ^ 62) ≤ n ∧ n < 2 ^ 24) ∧ (match tp with
    | true => k (.d (.tuple (upto 0 n.toNat))) st
    | false => newL kd (upto 0 n.toNat) st k)
  | _ => False
/-- both truths: is -/
def isBK (neg : Bool) (x y : EV) (k : Bool → Prop) : Prop := match x, y with
  | .d (.bool i), .d (.bool j) => (match neg with
    | true => k (!decide (i = j))
    | false => k (decide (i = j)))
  | _, _ => False
def lstE : EV → Prop
  | .d (.list _) => True
  | _ => False
/-- an int's first place in a list of ints -/
def idxK (x y : EV) (k : EV → Prop) : Prop := match x, y with
  | .d (.list xs), .d (.int m) => ∃ ns : List Int, (xs = ns.map PyData.int ∧ m ∈ ns) ∧ ∀ j : Nat, ns[j]? = some m → (∀ i, i < j → ns[i]? ≠ some m) → k (.d (.int j))
  | _, _ => False
/-- a displayed dict's value for a text, or another one -/
def dgetK (ks : List (Str × D)) (x y : EV) (k : EV → Prop) : Prop := match x with
  | .d (.str z) => (match ks.lookup z with
    | some v => k (.d v)
    | none => k y)
  | _ => False
def loopC (tg : EV → En → (En → Prop) → Prop) (c : En → Sto → (Bool → Sto → Prop) → Prop) (e : En → Sto → KE → Prop) (env : En) : List D → Sto → List D → (List D → Sto → Prop) → Prop
  | [], st, acc, k => k acc st
  | x :: r, st, acc, k => tg (.d x) env fun env' => c env' st fun b st1 => brP b (e env' st1 fun ev st2 => dE ev fun y => loopC tg c e env r st2 (acc ++ [y]) k) (loopC tg c e env r st1 acc k)
def loopC2 (tg : EV → En → (En → Prop) → Prop) (c : En → Sto → (Bool → Sto → Prop) → Prop) (it1 : En → Sto → (List D → Sto → Prop) → Prop) (own1 : List Nat) (tg1 : EV → En → (En → Prop) → Prop) (c1 : En → Sto → (Bool → Sto → Prop) → Prop) (e : En → Sto → KE → Prop) (env : En) : List D → Sto → List D → (List D → Sto → Prop) → Prop
  | [], st, acc, k => k acc st
  | x :: r, st, acc, k => tg (.d x) env fun env' => c env' st fun b st1 => brP b (it1 env' st1 fun ys st2 => acc.length + ys.length ≤ 1000000 ∧ loopC tg1 c1 e (wipeE env' own1) ys st2 acc fun acc2 st3 => loopC2 tg c it1 own1 tg1 c1 e env r st3 acc2 k) (loopC2 tg c it1 own1 tg1 c1 e env r st1 acc k)
def slotsOf : IE → List Nat
  | .var i => [i]
  | .tup r => slotsOf r
  | .cons a r => slotsOf a ++ slotsOf r
  | _ => []
def sem (tb : Tb) : IE → SE
  | .cst d => ofE fun _ st k => k (.d d) st
  | .var i => { ofE (fun env st k => match look env i with
      | some ev => k ev st
      | none => False) with a := fun ev env k => k (put env i ev) }
  | .glo n => ofE fun _ st k => match tb.gl[n]? with
      | some q => k (.d q.2) st
      | none => False
  | .bin o a b => ofE fun env st k => (sem tb a).e env st fun x st => (sem tb b).e env st fun y st => binK o x y fun z => k z st
  | .neg a => ofE fun env st k => (sem tb a).e env st fun x st => match x with
      | .d (.int i) => k (.d (.int (-i))) st
      | _ => False
  | .nt a => { ofE (fun env st k => (sem tb a).e env st fun x st => truE x st fun b => k (.d (.bool (!b))) st) with t := fun env st k => (sem tb a).t env st fun b st => k (!b) st }
  | .cmp o a b => ofB fun env st k => (sem tb a).e env st fun x st => (sem tb b).e env st fun y st => cmpK o x y st fun z => k z st
  | .cmp2 o p a b c => ofB fun env st k => (sem tb a).e env st fun x st => (sem tb b).e env st fun y st => cmpK o x y st fun z => brP z ((sem tb c).e env st fun w st => cmpK p y w st fun z => k z st) (k false st)
  | .isN a => ofB fun env st k => (sem tb a).e env st fun x st => dE x fun y => k (isNonD y) st
  | .notN a => ofB fun env st k => (sem tb a).e env st fun x st => dE x fun y => k (!isNonD y) st
  | .an a b => { ofE (fun env st k => (sem tb a).e env st fun x st => match x with
      | .d (.bool c) => brP c ((sem tb b).e env st k) (k (.d (.bool false)) st)
      | _ => False) with t := fun env st k => (sem tb a).t env st fun x st => brP x ((sem tb b).t env st k) (k false st) }
  | .oo a b => { ofE (fun env st k => (sem tb a).e env st fun x st => match x with
      | .d (.bool c) => brP c (k (.d (.bool true)) st) ((sem tb b).e env st k)
      | _ => False) with t := fun env st k => (sem tb a).t env st fun x st => brP x (k true st) ((sem tb b).t env st k) }
  | .ife c a b => ofE fun env st k => (sem tb c).t env st fun x st => brP x ((sem tb a).e env st k) ((sem tb b).e env st k)
  | .nil => { noSE with
      t := fun _ st k => k true st
      l := fun _ st k => k [] st
      al := fun xs env k => xs = [] ∧ k env
      o := fun _ st k => k none st }
  | .cons a r => { noSE with
      l := fun env st k => (sem tb a).e env st fun x st => (sem tb r).l env st fun xs st => k (x :: xs) st
      al := fun xs env k => match xs with
        | [] => False
        | x :: xs => (sem tb a).a (.d x) env fun env => (sem tb r).al xs env k }
  | .tup r => { ofE (fun env st k => (sem tb r).l env st fun xs st => allD xs fun ys => k (.d (.tuple ys)) st) with a := fun ev env k => match ev with
      | .d (.tuple xs) => (sem tb r).al xs env k
      | .d (.list xs) => (sem tb r).al xs env k
      | _ => False }
  | .lst kd r => ofE fun env st k => (sem tb r).l env st fun xs st => allD xs fun ys => newL kd ys st k
  | .ixc a n => ofE fun env st k => (sem tb a).e env st fun x st => seqE x st fun _ xs => match xs[n]? with
      | some y => k (.d y) st
      | none => False
  | .ix a i => ofE fun env st k => (sem tb a).e env st fun x st => (sem tb i).e env st fun j st => match j with
      | .d (.int n) => seqE x st fun _ xs => (match L2.atI xs n with
        | some y => k (.d y) st
        | none => False)
      | _ => False
  | .sl kd a lo hi => ofE fun env st k => (sem tb a).e env st fun x st => (sem tb lo).o env st fun l st => (sem tb hi).o env st fun h st => match x with
      | .d (.tuple xs) => k (.d (.tuple (cutD xs l h))) st
      | .d (.str z) => z.length ≤ sizeLine ∧ k (.d (.str ⟨(cutD z.cps.toList l h).toArray⟩)) st
      | x => seqE x st fun _ xs => newL kd (cutD xs l h) st k
  | .call n r => ofE fun env st k => (sem tb r).l env st fun xs st => argsK xs (tb.sem n xs st.g fun v g => k v ⟨g, st.l⟩)
  | .blt b kd r => ofE fun env st k => (sem tb r).l env st fun xs st => bltK b kd xs st k
  | .cmpr kd own tg it c e => ofE fun env st k => (sem tb it).i env st fun xs st => xs.length ≤ 10000000 ∧ loopC (sem tb tg).a (sem tb c).t (sem tb e).e (wipeE env own) xs st [] fun ys st => newL kd ys st k
  | .rng r => ofI fun env st k => (sem tb r).l env st fun xs st => rngK xs st k
  | .enm r => ofI fun env st k => (sem tb r).l env st fun xs st => enmK xs st k
  | .zp r => ofI fun env st k => (sem tb r).l env st fun xs st => zpK xs st k
  | .isi a t => ofB fun env st k => (sem tb a).e env st fun x st => dE x fun y => k (isiD y t) st
  | .scons a r => { noSE with
      l := fun env st k => (sem tb a).e env st fun x st => seqE x st fun _ ds => (sem tb r).l env st fun xs st => k (ds.map EV.d ++ xs) st }
  | .tupS r => ofE fun env st k => (sem tb r).l env st fun xs st => xs.length ≤ 1000000 ∧ allD xs fun ys => k (.d (.tuple ys)) st
  | .lstS kd r => ofE fun env st k => (sem tb r).l env st fun xs st => xs.length ≤ 1000000 ∧ allD xs fun ys => newL kd ys st k
  | .srs kd a => ofE fun env st k => (sem tb a).e env st fun x st => srsK kd x st k
  | .srl kd a => ofE fun env st k => (sem tb a).e env st fun x st => srlK kd x st k
  | .lop kd o a b => ofE fun env st k => (sem tb a).e env st fun x st => (sem tb b).e env st fun y st => lopK kd o x y st k
  | .idx a e => ofE fun env st k => (sem tb a).e env st fun x st => lstE x ∧ (sem tb e).e env st fun y st => idxK x y fun z => k z st
  | .dget ks a b => ofE fun env st k => (sem tb a).e env st fun x st => (sem tb b).e env st fun y st => dgetK ks x y fun z => k z st
  | .callS n ar r => ofE fun env st k => (sem tb r).l env st fun xs st => xs.length = ar ∧ argsK xs (tb.sem n xs st.g fun v g => k v ⟨g, st.l⟩)
  | .cmpr2 kd own tg it c tg1 it1 c1 e => ofE fun env st k => (sem tb it).i env st fun xs st => loopC2 (sem tb tg).a (sem tb c).t (sem tb it1).i (slotsOf tg1) (sem tb tg1).a (sem tb c1).t (sem tb e).e (wipeE env own) xs st [] fun ys st => newL kd ys st k
  | .isB neg a b => ofB fun env st k => (sem tb a).e env st fun x st => (sem tb b).e env st fun y st => isBK neg x y fun z => k z st
  | .sri kd a => ofE fun env st k => (sem tb a).e env st fun x st => sriK kd x st k
  | .ssi kd a => ofE fun env st k => (sem tb a).e env st fun x st => ssiK kd x st k
  | .rgv tp kd a => ofE fun env st k => (sem tb a).e env st fun x st => rgvK tp kd x st k

/-- what is wanted behind a statement -/
structure KS where
  nx : En → Sto → Prop
  rt : EV → Sto → Prop
  bk : En → Sto → Prop
  ct : En → Sto → Prop
/-- a list that may change: its new items -/
def setS (ev : EV) (st : Sto) (f : List D → (List D → Prop) → Prop) (k : Sto → Prop) : Prop := match ev with
  | .lm n => (match st.l[n]? with
    | some (some xs) => f xs fun ys => k ⟨st.g, st.l.set n (some ys)⟩
    | _ => False)
  | .gm n => (match st.g[n]? with
    | some xs => f xs fun ys => k ⟨st.g.set n ys, st.l⟩
    | none => False)
  | _ => False
/-- a list that may change -/
def mutE : EV → Prop
  | .lm _ => True
  | .gm _ => True
  | _ => False
def ixK (j : EV) (n : Nat) (k : Nat → Prop) : Prop := match j with
  | .d (.int i) => (match L2.ixN n i with
    | some m => k m
    | none => False)
  | _ => False
def loopF (tg : EV → En → (En → Prop) → Prop) (b : En → Sto → KS → Prop) : List D → En → Sto → KS → Prop
  | [], env, st, K => K.nx env st
  | x :: r, env, st, K => tg (.d x) env fun env' => b env' st { nx := fun e s => loopF tg b r e s K, rt := K.rt, bk := K.nx, ct := fun e s => loopF tg b r e s K }
def whlK (c : En → Sto → (Bool → Sto → Prop) → Prop) (b : En → Sto → KS → Prop) (env : En) (st : Sto) (K : KS) : Prop :=
  ∃ I : Nat → En → Sto → Prop, (∃ m, I m env st) ∧ ∀ m env st, I m env st → c env st fun t st => brP t (b env st { nx := fun e s => ∃ m', m' < m ∧ I m' e s, rt := K.rt, bk := K.nx, ct := fun e s => ∃ m', m' < m ∧ I m' e s }) (K.nx env st)
/-- several names -/
def puts : En → List Nat → List EV → (En → Prop) → Prop
  | env, [], [], k => k env
  | env, i :: is, e :: es, k => puts (put env i e) is es k
  | _, _, _, _ => False
def semS (tb : Tb) : IS → En → Sto → KS → Prop
  | .skip, env, st, K => K.nx env st
  | .seq a b, env, st, K => semS tb a env st { K with nx := fun env st => semS tb b env st K }
  | .asg t e, env, st, K => (sem tb e).e env st fun ev st => (sem tb t).a ev env fun env => K.nx env st
  | .aug o i e, env, st, K => (match look env i with
      | some x => (sem tb e).e env st fun y st => augK o x y fun z => K.nx (put env i z) st
      | none => False)
  | .augS o a i e, env, st, K => (sem tb a).e env st fun x st => (sem tb i).e env st fun j st => seqE x st fun b xs => b = true ∧ ixK j xs.length fun m => (match xs[m]? with
      | some old => (sem tb e).e env st fun y st => augK o (.d old) y fun z => dE z fun w => setS x st (fun xs k => ixK j xs.length fun m => k (xs.set m w)) fun st => K.nx env st
      | none => False)
  | .setI a i e, env, st, K => (sem tb e).e env st fun y st => (sem tb a).e env st fun x st => (sem tb i).e env st fun j st => dE y fun w => setS x st (fun xs k => ixK j xs.length fun m => k (xs.set m w)) fun st => K.nx env st
  | .app a e, env, st, K => (sem tb a).e env st fun x st => mutE x ∧ (sem tb e).e env st fun y st => dE y fun w => setS x st (fun xs k => xs.length < 1000000 ∧ k (xs ++ [w])) fun st => K.nx env st
  | .ext a e, env, st, K => (sem tb a).e env st fun x st => mutE x ∧ (sem tb e).e env st fun y st => (match y with
      | .d (.list ys) => setS x st (fun xs k => xs.length + ys.length ≤ 1000000 ∧ k (xs ++ ys)) fun st => K.nx env st
      | _ => False)
  | .ins a i e, env, st, K => (sem tb a).e env st fun x st => mutE x ∧ (sem tb i).e env st fun j st => (sem tb e).e env st fun y st => dE y fun w => (match j with
      | .d (.int n) => (0 ≤ n ∧ n < 2 ^ 62) ∧ setS x st (fun xs k => xs.length < 1000000 ∧ k (xs.take n.toNat ++ [w] ++ xs.drop n.toNat)) fun st => K.nx env st
      | _ => False)
  | .exp e, env, st, K => (sem tb e).e env st fun _ st => K.nx env st
  | .ifs c a b, env, st, K => (sem tb c).t env st fun x st => brP x (semS tb a env st K) (semS tb b env st K)
  | .whl c b, env, st, K => whlK (sem tb c).t (semS tb b) env st K
  | .fr t it b, env, st, K => (sem tb it).i env st fun xs st => loopF (sem tb t).a (semS tb b) xs env st K
  | .ret e, env, st, K => (sem tb e).e env st K.rt
  | .ret0, env, st, K => K.rt (.d .none) st
  | .brk, env, st, K => K.bk env st
  | .cont, env, st, K => K.ct env st
  | .never, _, _, _ => False
  | .par is r, env, st, K => (sem tb r).l env st fun evs st => puts env is evs fun env => K.nx env st
  | .freeze i, env, st, K => (match look env i with
      | some (.lm n) => (match st.l[n]? with
        | some (some xs) => K.nx (put env i (.d (.list xs))) ⟨st.g, st.l.set n none⟩
        | _ => False)
      | _ => False)
/-- a result that leaves its frame -/
def outE (ev : EV) (st : Sto) (k : EV → Prop) : Prop := match ev with
  | .d x => k (.d x)
  | .gm n => k (.gm n)
  | .lm n => (match st.l[n]? with
    | some (some xs) => k (.d (.list xs))
    | _ => False)
  | .sc _ => False
/-- a def by its body: n names, the parameters first -/
def semF (tb : Tb) (n : Nat) (b : IS) : Sem := fun vs g Q =>
  semS tb b (vs.map some ++ List.replicate (n - vs.length) none) ⟨g, []⟩ { nx := fun _ st => Q (.d .none) st.g, rt := fun ev st => outE ev st fun v => Q v st.g, bk := fun _ _ => False, ct := fun _ _ => False }
end VI

/-! VI2: the transformers are monotone. -/
namespace VI
open PySem
def SemMono (f : Sem) : Prop := ∀ vs g Q Q', (∀ v g, Q v g → Q' v g) → f vs g Q → f vs g Q'
def Tb.Mono (tb : Tb) : Prop := ∀ k, SemMono (tb.sem k)
theorem newL_mono {kd : Nat} {xs : List D} {st : Sto} {k k' : KE} (h : ∀ v s, k v s → k' v s) (q : newL kd xs st k) : newL kd xs st k' := by
  unfold newL at q ⊢
  split at q <;> exact h _ _ q
theorem seqE_mono {ev : EV} {st : Sto} {k k' : Bool → List D → Prop} (h : ∀ b xs, k b xs → k' b xs) (q : seqE ev st k) : seqE ev st k' := by
  unfold seqE at q ⊢
  split at q <;> first | exact h _ _ q | (split at q <;> first | exact h _ _ q | exact q.elim) | exact q.elim
theorem truE_mono {ev : EV} {st : Sto} {k k' : Bool → Prop} (h : ∀ b, k b → k' b) (q : truE ev st k) : truE ev st k' := by
  unfold truE at q ⊢
  split at q <;> first | exact h _ q | exact ⟨q.1, h _ q.2⟩ | exact seqE_mono (fun _ _ => h _) q
theorem dE_mono {ev : EV} {k k' : D → Prop} (h : ∀ x, k x → k' x) (q : dE ev k) : dE ev k' := by
  unfold dE at q ⊢
  split at q <;> first | exact h _ q | exact q.elim
theorem allD_mono : ∀ {evs : List EV} {k k' : List D → Prop}, (∀ x, k x → k' x) → allD evs k → allD evs k'
  | [], _, _, h, q => h _ q
  | .d x :: r, _, _, h, q => allD_mono (evs := r) (fun xs => h (x :: xs)) q
  | .lm _ :: _, _, _, _, q => q.elim
  | .gm _ :: _, _, _, _, q => q.elim
  | .sc _ :: _, _, _, _, q => q.elim
theorem argsK_mono : ∀ {evs : List EV} {p q : Prop}, (p → q) → argsK evs p → argsK evs q
  | [], _, _, h, z => h z
  | .d _ :: r, _, _, h, z => argsK_mono (evs := r) h z
  | .gm _ :: r, _, _, h, z => argsK_mono (evs := r) h z
  | .sc _ :: r, _, _, h, z => argsK_mono (evs := r) h z
  | .lm _ :: _, _, _, _, z => z.elim
theorem boolsE_mono : ∀ {xs : List D} {k k' : List Bool → Prop}, (∀ x, k x → k' x) → boolsE xs k → boolsE xs k'
  | [], _, _, h, q => h _ q
  | .bool b :: r, _, _, h, q => boolsE_mono (xs := r) (fun xs => h (b :: xs)) q
  | .none :: _, _, _, _, q => q.elim
  | .int _ :: _, _, _, _, q => q.elim
  | .str _ :: _, _, _, _, q => q.elim
  | .list _ :: _, _, _, _, q => q.elim
  | .tuple _ :: _, _, _, _, q => q.elim
  | .dict _ :: _, _, _, _, q => q.elim
theorem binK_mono {o : BOp} {x y : EV} {k k' : EV → Prop} (h : ∀ v, k v → k' v) (q : binK o x y k) : binK o x y k' := by
  unfold binK at q ⊢
  split at q <;> first | exact h _ q | exact ⟨q.1, h _ q.2⟩ | (obtain ⟨b, e, q⟩ := q; exact ⟨b, e, h _ q⟩) | exact q.elim
theorem cmpK_mono {o : COp} {x y : EV} {st : Sto} {k k' : Bool → Prop} (h : ∀ v, k v → k' v) (q : cmpK o x y st k) : cmpK o x y st k' := by
  unfold cmpK at q ⊢
  split at q <;> first | exact h _ q | exact ⟨q.1, h _ q.2⟩ | exact ⟨q.1, q.2.1, h _ q.2.2⟩ | exact q.elim
theorem bltK_mono {b : Blt} {kd : Nat} {r : List EV} {st : Sto} {k k' : KE} (h : ∀ v s, k v s → k' v s) (q : bltK b kd r st k) : bltK b kd r st k' := by
  unfold bltK at q ⊢
  split at q <;> first
    | exact h _ _ q
    | exact ⟨q.1, h _ _ q.2⟩
    | exact seqE_mono (fun _ _ => h _ _) q
    | exact seqE_mono (fun _ _ q => ⟨q.1, boolsE_mono (fun _ => h _ _) q.2⟩) q
    | exact seqE_mono (fun _ _ => newL_mono h) q
    | (obtain ⟨ns, a, b⟩ := q; exact ⟨ns, a, fun m z y => h _ _ (b m z y)⟩)
    | exact ⟨q.1, fun r a b c => h _ _ (q.2 r a b c)⟩
    | exact q.elim
theorem rngK_mono {r : List EV} {st : Sto} {k k' : List D → Sto → Prop} (h : ∀ v s, k v s → k' v s) (q : rngK r st k) : rngK r st k' := by
  unfold rngK at q ⊢
  split at q <;> first | exact ⟨q.1, h _ _ q.2⟩ | exact q.elim
theorem enmK_mono {r : List EV} {st : Sto} {k k' : List D → Sto → Prop} (h : ∀ v s, k v s → k' v s) (q : enmK r st k) : enmK r st k' := by
  unfold enmK at q ⊢
  split at q <;> first | exact h _ _ q | exact q.elim
theorem sriK_mono {kd : Nat} {x : EV} {st : Sto} {k k' : KE} (h : ∀ v s, k v s → k' v s) (q : sriK kd x st k) : sriK kd x st k' := by
  unfold sriK at q ⊢
  split at q
  · obtain ⟨ts, a, b⟩ := q
    exact ⟨ts, a, fun ys z => newL_mono h (b ys z)⟩
  · exact q
theorem ssiK_mono {kd : Nat} {x : EV} {st : Sto} {k k' : KE} (h : ∀ v s, k v s → k' v s) (q : ssiK kd x st k) : ssiK kd x st k' := by
  unfold ssiK at q ⊢
  split at q
  · obtain ⟨ts, a, b⟩ := q
    exact ⟨ts, a, fun ys z => newL_mono h (b ys z)⟩
  · exact q
theorem rgvK_mono {tp : Bool} {kd : Nat} {r : EV} {st : Sto} {k k' : KE} (h : ∀ v s, k v s → k' v s) (q : rgvK tp kd r st k) : rgvK tp kd r st k' := by
  unfold rgvK at q ⊢
  split at q
  · refine ⟨q.1, ?_⟩
    have q := q.2
    split at q
    · exact h _ _ q
    · exact newL_mono h q
  · exact q
theorem isBK_mono {neg : Bool} {x y : EV} {k k' : Bool → Prop} (h : ∀ v, k v → k' v) (q : isBK neg x y k) : isBK neg x y k' := by
  unfold isBK at q ⊢
  split at q
  · split at q <;> exact h _ q
  · exact q
theorem zpK_mono {r : List EV} {st : Sto} {k k' : List D → Sto → Prop} (h : ∀ v s, k v s → k' v s) (q : zpK r st k) : zpK r st k' := by
  unfold zpK at q ⊢
  split at q <;> first | exact h _ _ q | exact q.elim
theorem idxK_mono {x y : EV} {k k' : EV → Prop} (h : ∀ v, k v → k' v) (q : idxK x y k) : idxK x y k' := by
  unfold idxK at q ⊢
  split at q
  · obtain ⟨ns, a, q⟩ := q
    exact ⟨ns, a, fun j u v => h _ (q j u v)⟩
  · exact q.elim
theorem dgetK_mono {ks : List (Str × D)} {x y : EV} {k k' : EV → Prop} (h : ∀ v, k v → k' v) (q : dgetK ks x y k) : dgetK ks x y k' := by
  unfold dgetK at q ⊢
  split at q
  · split at q <;> exact h _ q
  · exact q.elim
structure SE.Mono (s : SE) : Prop where
  e : ∀ env st k k', (∀ v s, k v s → k' v s) → s.e env st k → s.e env st k'
  t : ∀ env st k k', (∀ v s, k v s → k' v s) → s.t env st k → s.t env st k'
  l : ∀ env st k k', (∀ v s, k v s → k' v s) → s.l env st k → s.l env st k'
  i : ∀ env st k k', (∀ v s, k v s → k' v s) → s.i env st k → s.i env st k'
  a : ∀ ev env k k', (∀ e, k e → k' e) → s.a ev env k → s.a ev env k'
  al : ∀ xs env k k', (∀ e, k e → k' e) → s.al xs env k → s.al xs env k'
  o : ∀ env st k k', (∀ v s, k v s → k' v s) → s.o env st k → s.o env st k'
abbrev MonoE (f : En → Sto → KE → Prop) : Prop := ∀ env st k k', (∀ v s, k v s → k' v s) → f env st k → f env st k'
theorem ofE_mono {f : En → Sto → KE → Prop} (h : MonoE f) : (ofE f).Mono where
  e := h
  t := fun env st k k' q => h env st _ _ fun v s => truE_mono fun b => q b s
  l := fun _ _ _ _ _ z => z.elim
  i := fun env st k k' q => h env st _ _ fun v s z => by
    split at z <;> first | exact q _ _ z | exact z.elim
  a := fun _ _ _ _ _ z => z.elim
  al := fun _ _ _ _ _ z => z.elim
  o := fun env st k k' q => h env st _ _ fun v s z => by
    split at z <;> first | exact q _ _ z | exact z.elim
theorem ofB_mono {f : En → Sto → (Bool → Sto → Prop) → Prop} (h : ∀ env st k k', (∀ v s, k v s → k' v s) → f env st k → f env st k') : (ofB f).Mono where
  e := fun env st k k' q => h env st _ _ fun b s => q _ s
  t := h
  l := fun _ _ _ _ _ z => z.elim
  i := fun _ _ _ _ _ z => z.elim
  a := fun _ _ _ _ _ z => z.elim
  al := fun _ _ _ _ _ z => z.elim
  o := fun _ _ _ _ _ z => z.elim
theorem ofI_mono {f : En → Sto → (List D → Sto → Prop) → Prop} (h : ∀ env st k k', (∀ v s, k v s → k' v s) → f env st k → f env st k') : (ofI f).Mono where
  e := fun _ _ _ _ _ z => z.elim
  t := fun _ _ _ _ _ z => z.elim
  l := fun _ _ _ _ _ z => z.elim
  i := h
  a := fun _ _ _ _ _ z => z.elim
  al := fun _ _ _ _ _ z => z.elim
  o := fun _ _ _ _ _ z => z.elim
theorem lopK_mono {kd : Nat} {o : BOp} {x y : EV} {st : Sto} {k k' : KE} (h : ∀ v s, k v s → k' v s) (q : lopK kd o x y st k) : lopK kd o x y st k' := by
  unfold lopK at q ⊢
  split at q
  · exact ⟨q.1, newL_mono h q.2⟩
  · exact ⟨q.1, newL_mono h q.2⟩
  · exact q.elim
theorem srsK_mono {kd : Nat} {x : EV} {st : Sto} {k k' : KE} (h : ∀ v s, k v s → k' v s) (q : srsK kd x st k) : srsK kd x st k' := by
  unfold srsK at q ⊢
  split at q
  · obtain ⟨ts, a, b⟩ := q
    exact ⟨ts, a, fun ys z => newL_mono h (b ys z)⟩
  · obtain ⟨ts, a, b⟩ := q
    exact ⟨ts, a, fun ys z => newL_mono h (b ys z)⟩
  · exact q
theorem srlK_mono {kd : Nat} {x : EV} {st : Sto} {k k' : KE} (h : ∀ v s, k v s → k' v s) (q : srlK kd x st k) : srlK kd x st k' := by
  unfold srlK at q ⊢
  split at q
  · obtain ⟨ts, a, b⟩ := q
    exact ⟨ts, a, fun ys z => newL_mono h (b ys z)⟩
  · exact q
theorem loopC_mono {tg : EV → En → (En → Prop) → Prop} {c : En → Sto → (Bool → Sto → Prop) → Prop} {e : En → Sto → KE → Prop} {env : En}
    (ht : ∀ ev env k k', (∀ e, k e → k' e) → tg ev env k → tg ev env k') (hc : ∀ env st k k', (∀ v s, k v s → k' v s) → c env st k → c env st k') (he : MonoE e) {k k' : List D → Sto → Prop} (h : ∀ v s, k v s → k' v s) :
    ∀ (xs : List D) (st : Sto) (acc : List D), loopC tg c e env xs st acc k → loopC tg c e env xs st acc k'
  | [], st, acc, q => h _ _ q
  | x :: r, st, acc, q => ht _ _ _ _ (fun env' => hc _ _ _ _ fun b st1 z => by
      cases b with
      | true =>
        refine brT ?_; have z := brT' z
        exact he _ _ _ _ (fun ev st2 => dE_mono fun y => loopC_mono ht hc he h r st2 _) z
      | false =>
        refine brF ?_; have z := brF' z
        exact loopC_mono ht hc he h r st1 _ z) q
theorem loopC2_mono {tg tg1 : EV → En → (En → Prop) → Prop} {c c1 : En → Sto → (Bool → Sto → Prop) → Prop} {it1 : En → Sto → (List D → Sto → Prop) → Prop} {own1 : List Nat} {e : En → Sto → KE → Prop} {env : En}
    (ht : ∀ ev env k k', (∀ e, k e → k' e) → tg ev env k → tg ev env k') (hc : ∀ env st k k', (∀ v s, k v s → k' v s) → c env st k → c env st k') (hi : ∀ env st k k', (∀ v s, k v s → k' v s) → it1 env st k → it1 env st k')
    (ht1 : ∀ ev env k k', (∀ e, k e → k' e) → tg1 ev env k → tg1 ev env k') (hc1 : ∀ env st k k', (∀ v s, k v s → k' v s) → c1 env st k → c1 env st k') (he : MonoE e) {k k' : List D → Sto → Prop} (h : ∀ v s, k v s → k' v s) :
    ∀ (xs : List D) (st : Sto) (acc : List D), loopC2 tg c it1 own1 tg1 c1 e env xs st acc k → loopC2 tg c it1 own1 tg1 c1 e env xs st acc k'
  | [], st, acc, q => h _ _ q
  | x :: r, st, acc, q => ht _ _ _ _ (fun env' => hc _ _ _ _ fun b st1 z => by
      cases b with
      | true =>
        refine brT ?_; have z := brT' z
        exact hi _ _ _ _ (fun ys st2 z => ⟨z.1, loopC_mono ht1 hc1 he (fun acc2 st3 => loopC2_mono ht hc hi ht1 hc1 he h r st3 acc2) ys st2 acc z.2⟩) z
      | false =>
        refine brF ?_; have z := brF' z
        exact loopC2_mono ht hc hi ht1 hc1 he h r st1 _ z) q
theorem sem_mono {tb : Tb} (ht : tb.Mono) : ∀ ie : IE, (sem tb ie).Mono
  | .cst d => ofE_mono fun _ _ _ _ h q => h _ _ q
  | .var i => by
    have m := ofE_mono (f := fun env st k => match look env i with
      | some ev => k ev st
      | none => False) fun _ _ _ _ h q => by
      dsimp only at q ⊢
      split at q <;> first | exact h _ _ q | exact q.elim
    exact ⟨m.e, m.t, m.l, m.i, fun _ _ _ _ h q => h _ q, m.al, m.o⟩
  | .glo n => ofE_mono fun _ _ _ _ h q => by
      split at q <;> first | exact h _ _ q | exact q.elim
  | .bin o a b => ofE_mono fun env st k k' h => (sem_mono ht a).e _ _ _ _ fun x st => (sem_mono ht b).e _ _ _ _ fun y st => binK_mono fun z => h z st
  | .neg a => ofE_mono fun env st k k' h => (sem_mono ht a).e _ _ _ _ fun x st q => by
      split at q <;> first | exact h _ _ q | exact q.elim
  | .nt a => by
    have m := ofE_mono (f := fun env st k => (sem tb a).e env st fun x st => truE x st fun b => k (.d (.bool (!b))) st) fun env st k k' h => (sem_mono ht a).e _ _ _ _ fun x st => truE_mono fun b => h _ _
    exact ⟨m.e, fun env st k k' h => (sem_mono ht a).t _ _ _ _ fun b st => h _ _, m.l, m.i, m.a, m.al, m.o⟩
  | .cmp o a b => ofB_mono fun env st k k' h => (sem_mono ht a).e _ _ _ _ fun x st => (sem_mono ht b).e _ _ _ _ fun y st => cmpK_mono fun z => h z st
  | .cmp2 o p a b c => ofB_mono fun env st k k' h => (sem_mono ht a).e _ _ _ _ fun x st => (sem_mono ht b).e _ _ _ _ fun y st => cmpK_mono fun z q => by
      cases z with
      | true =>
        refine brT ?_; have q := brT' q
        exact (sem_mono ht c).e _ _ _ _ (fun w st => cmpK_mono fun z => h z st) q
      | false =>
        refine brF ?_; have q := brF' q
        exact h _ _ q
  | .isN a => ofB_mono fun env st k k' h => (sem_mono ht a).e _ _ _ _ fun x st => dE_mono fun y => h _ _
  | .notN a => ofB_mono fun env st k k' h => (sem_mono ht a).e _ _ _ _ fun x st => dE_mono fun y => h _ _
  | .an a b => by
    have m := ofE_mono (f := fun env st k => (sem tb a).e env st fun x st => match x with
      | .d (.bool c) => brP c ((sem tb b).e env st k) (k (.d (.bool false)) st)
      | _ => False) fun env st k k' h => (sem_mono ht a).e _ _ _ _ fun x st q => by
      split at q <;> first | exact ⟨fun z => (sem_mono ht b).e _ _ _ _ h (q.1 z), fun z => h _ _ (q.2 z)⟩ | exact q.elim
    refine ⟨m.e, fun env st k k' h => (sem_mono ht a).t _ _ _ _ fun x st q => ?_, m.l, m.i, m.a, m.al, m.o⟩
    cases x with
    | true =>
      refine brT ?_; have q := brT' q
      exact (sem_mono ht b).t _ _ _ _ h q
    | false =>
      refine brF ?_; have q := brF' q
      exact h _ _ q
  | .oo a b => by
    have m := ofE_mono (f := fun env st k => (sem tb a).e env st fun x st => match x with
      | .d (.bool c) => brP c (k (.d (.bool true)) st) ((sem tb b).e env st k)
      | _ => False) fun env st k k' h => (sem_mono ht a).e _ _ _ _ fun x st q => by
      split at q <;> first | exact ⟨fun z => h _ _ (q.1 z), fun z => (sem_mono ht b).e _ _ _ _ h (q.2 z)⟩ | exact q.elim
    refine ⟨m.e, fun env st k k' h => (sem_mono ht a).t _ _ _ _ fun x st q => ?_, m.l, m.i, m.a, m.al, m.o⟩
    cases x with
    | true =>
      refine brT ?_; have q := brT' q
      exact h _ _ q
    | false =>
      refine brF ?_; have q := brF' q
      exact (sem_mono ht b).t _ _ _ _ h q
  | .ife c a b => ofE_mono fun env st k k' h => (sem_mono ht c).t _ _ _ _ fun x st q => by
      cases x with
      | true =>
        refine brT ?_; have q := brT' q
        exact (sem_mono ht a).e _ _ _ _ h q
      | false =>
        refine brF ?_; have q := brF' q
        exact (sem_mono ht b).e _ _ _ _ h q
  | .nil => ⟨fun _ _ _ _ _ z => z.elim, fun _ _ _ _ h q => h _ _ q, fun _ _ _ _ h q => h _ _ q, fun _ _ _ _ _ z => z.elim, fun _ _ _ _ _ z => z.elim, fun _ _ _ _ h q => ⟨q.1, h _ q.2⟩, fun _ _ _ _ h q => h _ _ q⟩
  | .cons a r => ⟨fun _ _ _ _ _ z => z.elim, fun _ _ _ _ _ z => z.elim, fun env st k k' h => (sem_mono ht a).e _ _ _ _ fun x st => (sem_mono ht r).l _ _ _ _ fun xs st => h _ _, fun _ _ _ _ _ z => z.elim, fun _ _ _ _ _ z => z.elim,
      fun xs env k k' h q => by
        cases xs with
        | nil => exact q.elim
        | cons x xs => exact (sem_mono ht a).a _ _ _ _ (fun env => (sem_mono ht r).al _ _ _ _ h) q,
      fun _ _ _ _ _ z => z.elim⟩
  | .tup r => by
    have m := ofE_mono (f := fun env st k => (sem tb r).l env st fun xs st => allD xs fun ys => k (.d (.tuple ys)) st) fun env st k k' h => (sem_mono ht r).l _ _ _ _ fun xs st => allD_mono fun ys => h _ _
    refine ⟨m.e, m.t, m.l, m.i, fun ev env k k' h q => ?_, m.al, m.o⟩
    dsimp only [sem] at q ⊢
    split at q <;> first | exact (sem_mono ht r).al _ _ _ _ h q | exact q.elim
  | .lst kd r => ofE_mono fun env st k k' h => (sem_mono ht r).l _ _ _ _ fun xs st => allD_mono fun ys => newL_mono h
  | .ixc a n => ofE_mono fun env st k k' h => (sem_mono ht a).e _ _ _ _ fun x st => seqE_mono fun b xs q => by
      split at q <;> first | exact h _ _ q | exact q.elim
  | .ix a i => ofE_mono fun env st k k' h => (sem_mono ht a).e _ _ _ _ fun x st => (sem_mono ht i).e _ _ _ _ fun j st q => by
      split at q <;> first
        | exact seqE_mono (fun b xs q => by
            split at q <;> first | exact h _ _ q | exact q.elim) q
        | exact q.elim
  | .sl kd a lo hi => ofE_mono fun env st k k' h => (sem_mono ht a).e _ _ _ _ fun x st => (sem_mono ht lo).o _ _ _ _ fun l st => (sem_mono ht hi).o _ _ _ _ fun u st q => by
      split at q <;> first | exact h _ _ q | exact ⟨q.1, h _ _ q.2⟩ | exact seqE_mono (fun b xs => newL_mono h) q
  | .call n r => ofE_mono fun env st k k' h => (sem_mono ht r).l _ _ _ _ fun xs st => argsK_mono (ht n _ _ _ _ fun v g => h _ _)
  | .blt b kd r => ofE_mono fun env st k k' h => (sem_mono ht r).l _ _ _ _ fun xs st => bltK_mono h
  | .cmpr kd own tg it c e => ofE_mono fun env st k k' h => (sem_mono ht it).i _ _ _ _ fun xs st q => ⟨q.1, loopC_mono (sem_mono ht tg).a (sem_mono ht c).t (sem_mono ht e).e (fun ys st => newL_mono h) xs st [] q.2⟩
  | .rng r => ofI_mono fun env st k k' h => (sem_mono ht r).l _ _ _ _ fun xs st => rngK_mono h
  | .enm r => ofI_mono fun env st k k' h => (sem_mono ht r).l _ _ _ _ fun xs st => enmK_mono h
  | .zp r => ofI_mono fun env st k k' h => (sem_mono ht r).l _ _ _ _ fun xs st => zpK_mono h
  | .isi a t => ofB_mono fun env st k k' h => (sem_mono ht a).e _ _ _ _ fun x st => dE_mono fun y => h _ _
  | .scons a r => ⟨fun _ _ _ _ _ z => z.elim, fun _ _ _ _ _ z => z.elim, fun env st k k' h => (sem_mono ht a).e _ _ _ _ fun x st => seqE_mono fun _ ds => (sem_mono ht r).l _ _ _ _ fun xs st => h _ _, fun _ _ _ _ _ z => z.elim, fun _ _ _ _ _ z => z.elim, fun _ _ _ _ _ z => z.elim, fun _ _ _ _ _ z => z.elim⟩
  | .tupS r => ofE_mono fun env st k k' h => (sem_mono ht r).l _ _ _ _ fun xs st q => ⟨q.1, allD_mono (fun ys => h _ _) q.2⟩
  | .lstS kd r => ofE_mono fun env st k k' h => (sem_mono ht r).l _ _ _ _ fun xs st q => ⟨q.1, allD_mono (fun ys => newL_mono h) q.2⟩
  | .srs kd a => ofE_mono fun env st k k' h => (sem_mono ht a).e _ _ _ _ fun x st => srsK_mono h
  | .srl kd a => ofE_mono fun env st k k' h => (sem_mono ht a).e _ _ _ _ fun x st => srlK_mono h
  | .lop kd o a b => ofE_mono fun env st k k' h => (sem_mono ht a).e _ _ _ _ fun x st => (sem_mono ht b).e _ _ _ _ fun y st => lopK_mono h
  | .idx a e => ofE_mono fun env st k k' h => (sem_mono ht a).e _ _ _ _ fun x st q => ⟨q.1, (sem_mono ht e).e _ _ _ _ (fun y st => idxK_mono fun z => h z st) q.2⟩
  | .dget ks a b => ofE_mono fun env st k k' h => (sem_mono ht a).e _ _ _ _ fun x st => (sem_mono ht b).e _ _ _ _ fun y st => dgetK_mono fun z => h z st
  | .callS n ar r => ofE_mono fun env st k k' h => (sem_mono ht r).l _ _ _ _ fun xs st q => ⟨q.1, argsK_mono (ht n _ _ _ _ fun v g => h _ _) q.2⟩
  | .cmpr2 kd own tg it c tg1 it1 c1 e => ofE_mono fun env st k k' h => (sem_mono ht it).i _ _ _ _ fun xs st => loopC2_mono (sem_mono ht tg).a (sem_mono ht c).t (sem_mono ht it1).i (sem_mono ht tg1).a (sem_mono ht c1).t (sem_mono ht e).e (fun ys st => newL_mono h) xs st []
  | .isB neg a b => ofB_mono fun env st k k' h => (sem_mono ht a).e _ _ _ _ fun x st => (sem_mono ht b).e _ _ _ _ fun y st => isBK_mono fun z => h z st
  | .sri kd a => ofE_mono fun env st k k' h => (sem_mono ht a).e _ _ _ _ fun x st => sriK_mono h
  | .ssi kd a => ofE_mono fun env st k k' h => (sem_mono ht a).e _ _ _ _ fun x st => ssiK_mono h
  | .rgv tp kd a => ofE_mono fun env st k k' h => (sem_mono ht a).e _ _ _ _ fun x st => rgvK_mono h
structure KS.Le (K K' : KS) : Prop where
  nx : ∀ e s, K.nx e s → K'.nx e s
  rt : ∀ e s, K.rt e s → K'.rt e s
  bk : ∀ e s, K.bk e s → K'.bk e s
  ct : ∀ e s, K.ct e s → K'.ct e s
theorem setS_mono {ev : EV} {st : Sto} {f : List D → (List D → Prop) → Prop} {k k' : Sto → Prop} (hf : ∀ xs k k', (∀ ys, k ys → k' ys) → f xs k → f xs k') (h : ∀ s, k s → k' s) (q : setS ev st f k) : setS ev st f k' := by
  unfold setS at q ⊢
  split at q <;> first | (split at q <;> first | exact hf _ _ _ (fun ys => h _) q | exact q.elim) | exact q.elim
theorem augK_mono {o : BOp} {x y : EV} {k k' : EV → Prop} (h : ∀ z, k z → k' z) (q : augK o x y k) : augK o x y k' := ⟨q.1, q.2.1, binK_mono h q.2.2⟩
theorem ixK_mono {j : EV} {n : Nat} {k k' : Nat → Prop} (h : ∀ m, k m → k' m) (q : ixK j n k) : ixK j n k' := by
  unfold ixK at q ⊢
  split at q <;> first | (split at q <;> first | exact h _ q | exact q.elim) | exact q.elim
theorem loopF_mono {tg : EV → En → (En → Prop) → Prop} {b : En → Sto → KS → Prop} (ht : ∀ ev env k k', (∀ e, k e → k' e) → tg ev env k → tg ev env k') (hb : ∀ env st K K', K.Le K' → b env st K → b env st K') {K K' : KS} (h : K.Le K') :
    ∀ (xs : List D) (env : En) (st : Sto), loopF tg b xs env st K → loopF tg b xs env st K'
  | [], env, st, q => h.nx _ _ q
  | x :: r, env, st, q => ht _ _ _ _ (fun env' => hb _ _ { nx := fun e s => loopF tg b r e s K, rt := K.rt, bk := K.nx, ct := fun e s => loopF tg b r e s K } { nx := fun e s => loopF tg b r e s K', rt := K'.rt, bk := K'.nx, ct := fun e s => loopF tg b r e s K' } ⟨fun e s => loopF_mono ht hb h r e s, h.rt, h.nx, fun e s => loopF_mono ht hb h r e s⟩) q
theorem puts_mono : ∀ {is : List Nat} {es : List EV} {env : En} {k k' : En → Prop}, (∀ e, k e → k' e) → puts env is es k → puts env is es k'
  | [], [], _, _, _, h, q => h _ q
  | [], _ :: _, _, _, _, _, q => q.elim
  | _ :: _, [], _, _, _, _, q => q.elim
  | i :: is, e :: es, env, _, _, h, q => puts_mono (is := is) (es := es) h q
theorem semS_mono {tb : Tb} (ht : tb.Mono) : ∀ (b : IS) (env : En) (st : Sto) (K K' : KS), K.Le K' → semS tb b env st K → semS tb b env st K'
  | .skip, env, st, K, K', h, q => h.nx _ _ q
  | .seq a b, env, st, K, K', h, q => semS_mono ht a env st { K with nx := fun env st => semS tb b env st K } { K' with nx := fun env st => semS tb b env st K' } ⟨fun e s => semS_mono ht b e s K K' h, h.rt, h.bk, h.ct⟩ q
  | .asg t e, env, st, K, K', h, q => (sem_mono ht e).e _ _ _ _ (fun ev st => (sem_mono ht t).a _ _ _ _ fun env => h.nx _ _) q
  | .aug o i e, env, st, K, K', h, q => by
    unfold semS at q ⊢
    split at q
    · exact (sem_mono ht e).e _ _ _ _ (fun y st => augK_mono fun z => h.nx _ _) q
    · exact q.elim
  | .augS o a i e, env, st, K, K', h, q => (sem_mono ht a).e _ _ _ _ (fun x st => (sem_mono ht i).e _ _ _ _ fun j st => seqE_mono fun b xs q => ⟨q.1, ixK_mono (fun m q => by
      split at q
      · exact (sem_mono ht e).e _ _ _ _ (fun y st => augK_mono fun z => dE_mono fun w => setS_mono (fun xs k k' h => ixK_mono fun m => h _) fun st => h.nx _ _) q
      · exact q.elim) q.2⟩) q
  | .setI a i e, env, st, K, K', h, q => (sem_mono ht e).e _ _ _ _ (fun y st => (sem_mono ht a).e _ _ _ _ fun x st => (sem_mono ht i).e _ _ _ _ fun j st => dE_mono fun w => setS_mono (fun xs k k' h => ixK_mono fun m => h _) fun st => h.nx _ _) q
  | .app a e, env, st, K, K', h, q => (sem_mono ht a).e _ _ _ _ (fun x st q => ⟨q.1, (sem_mono ht e).e _ _ _ _ (fun y st => dE_mono fun w => setS_mono (fun xs k k' h q => ⟨q.1, h _ q.2⟩) fun st => h.nx _ _) q.2⟩) q
  | .ext a e, env, st, K, K', h, q => (sem_mono ht a).e _ _ _ _ (fun x st q => ⟨q.1, (sem_mono ht e).e _ _ _ _ (fun y st q => by
      split at q
      · exact setS_mono (fun xs k k' h q => ⟨q.1, h _ q.2⟩) (fun st => h.nx _ _) q
      · exact q.elim) q.2⟩) q
  | .ins a i e, env, st, K, K', h, q => (sem_mono ht a).e _ _ _ _ (fun x st q => ⟨q.1, (sem_mono ht i).e _ _ _ _ (fun j st => (sem_mono ht e).e _ _ _ _ fun y st => dE_mono fun w q => by
      split at q
      · exact ⟨q.1, setS_mono (fun xs k k' h q => ⟨q.1, h _ q.2⟩) (fun st => h.nx _ _) q.2⟩
      · exact q.elim) q.2⟩) q
  | .exp e, env, st, K, K', h, q => (sem_mono ht e).e _ _ _ _ (fun _ st => h.nx _ _) q
  | .ifs c a b, env, st, K, K', h, q => (sem_mono ht c).t _ _ _ _ (fun x st q => by
      cases x with
      | true =>
        refine brT ?_; have q := brT' q
        exact semS_mono ht a _ _ _ _ h q
      | false =>
        refine brF ?_; have q := brF' q
        exact semS_mono ht b _ _ _ _ h q) q
  | .whl c b, env, st, K, K', h, q => by
    unfold semS whlK at q ⊢
    obtain ⟨I, h0, hs⟩ := q
    refine ⟨I, h0, fun m env st hI => (sem_mono ht c).t _ _ _ _ (fun x st q => ?_) (hs m env st hI)⟩
    cases x with
    | true =>
      refine brT ?_; have q := brT' q
      exact semS_mono ht b _ _ { nx := fun e s => ∃ m', m' < m ∧ I m' e s, rt := K.rt, bk := K.nx, ct := fun e s => ∃ m', m' < m ∧ I m' e s } _ ⟨fun _ _ z => z, h.rt, h.nx, fun _ _ z => z⟩ q
    | false =>
      refine brF ?_; have q := brF' q
      exact h.nx _ _ q
  | .fr t it b, env, st, K, K', h, q => (sem_mono ht it).i _ _ _ _ (fun xs st => loopF_mono (sem_mono ht t).a (fun env st K K' h => semS_mono ht b env st K K' h) h xs env st) q
  | .ret e, env, st, K, K', h, q => (sem_mono ht e).e _ _ _ _ h.rt q
  | .ret0, env, st, K, K', h, q => h.rt _ _ q
  | .brk, env, st, K, K', h, q => h.bk _ _ q
  | .cont, env, st, K, K', h, q => h.ct _ _ q
  | .never, _, _, _, _, _, q => q.elim
  | .par is r, env, st, K, K', h, q => (sem_mono ht r).l _ _ _ _ (fun evs st => puts_mono fun env => h.nx _ _) q
  | .freeze i, env, st, K, K', h, q => by
    unfold semS at q ⊢
    split at q <;> first | (split at q <;> first | exact h.nx _ _ q | exact q.elim) | exact q.elim
theorem outE_mono {ev : EV} {st : Sto} {k k' : EV → Prop} (h : ∀ v, k v → k' v) (q : outE ev st k) : outE ev st k' := by
  unfold outE at q ⊢
  split at q <;> first | exact h _ q | (split at q <;> first | exact h _ q | exact q.elim) | exact q.elim
theorem semF_mono {tb : Tb} (ht : tb.Mono) (n : Nat) (b : IS) : SemMono (semF tb n b) := fun vs g Q Q' h q =>
  semS_mono ht b _ _ { nx := fun _ st => Q (.d .none) st.g, rt := fun ev st => outE ev st fun v => Q v st.g, bk := fun _ _ => False, ct := fun _ _ => False } { nx := fun _ st => Q' (.d .none) st.g, rt := fun ev st => outE ev st fun v => Q' v st.g, bk := fun _ _ => False, ct := fun _ _ => False }
    ⟨fun _ st => h _ _, fun ev st => outE_mono fun v => h v _, fun _ _ z => z, fun _ _ z => z⟩ q
/-- a table of monotone meanings -/
theorem Tb.mono_of {tb : Tb} (h : ∀ q ∈ tb.fn, SemMono q.2.2) : tb.Mono := fun k => by
  unfold Tb.sem
  split
  · rename_i q e
    exact h q (List.mem_of_getElem? e)
  · exact fun _ _ _ _ _ z => z.elim
end VI

/-! VI3: how data and lists that may change stand in the abstract heap. -/
namespace VI
open PySem PySem.Spec PyProof.Rows L2
def KL (K : PySem.W.Frag) (a : Addr) (xs : List V) : Prop := ∃ (o : Obj) (its : Array Value) (n : Nat), K.lookup a = some o ∧ o.cls = .type "list" ∧ o.dict = none ∧ o.data = .seq its n ∧ its.size ≤ sizeLine ∧ Vals xs its.toList
def KT (K : PySem.W.Frag) (a : Addr) (xs : List V) : Prop := ∃ (o : Obj) (its : Array Value) (n : Nat), K.lookup a = some o ∧ o.cls = .type "tuple" ∧ o.data = .seq its n ∧ its.size ≤ sizeLine ∧ Vals xs its.toList
def FzL (K : PySem.W.Frag) (H : Hp) (M : Addr → Prop) (a : Addr) (xs : List V) : Prop := (Rd H a (.lst xs) ∧ ¬ M a) ∨ KL K a xs
def FzT (K : PySem.W.Frag) (H : Hp) (M : Addr → Prop) (a : Addr) (xs : List V) : Prop := (Rd H a (.tup xs) ∧ ¬ M a) ∨ KT K a xs
theorem FzL.sq {K : PySem.W.Frag} {H : Hp} {M : Addr → Prop} {a : Addr} {xs : List V} (h : FzL K H M a xs) : SqL K H a xs := h.elim (fun z => .inl z.1) .inr
theorem FzT.sq {K : PySem.W.Frag} {H : Hp} {M : Addr → Prop} {a : Addr} {xs : List V} (h : FzT K H M a xs) : SqT K H a xs := h.elim (fun z => .inl z.1) .inr
mutual
inductive Rep (K : PySem.W.Frag) (H : Hp) (M : Addr → Prop) : V → D → Prop
  | non : Rep K H M .non .none
  | bl (b : Bool) : Rep K H M (.bl b) (.bool b)
  | int (i : Int) : Rep K H M (.int i) (.int i)
  | str (x : Str) : Rep K H M (.str x) (.str x)
  | lst {a : Addr} {xs : List V} {ds : List D} : H a = some (.lst xs) → ¬ M a → Reps K H M xs ds → Rep K H M (.ref a) (.list ds)
  | tup {a : Addr} {xs : List V} {ds : List D} : FzT K H M a xs → Reps K H M xs ds → Rep K H M (.ref a) (.tuple ds)
inductive Reps (K : PySem.W.Frag) (H : Hp) (M : Addr → Prop) : List V → List D → Prop
  | nil : Reps K H M [] []
  | cons {v : V} {vs : List V} {d : D} {ds : List D} : Rep K H M v d → Reps K H M vs ds → Reps K H M (v :: vs) (d :: ds)
end
mutual
theorem Rep.conv {K : PySem.W.Frag} {H H' : Hp} {M M' : Addr → Prop} (c : ∀ a o, H a = some o → ¬ M a → H' a = some o ∧ ¬ M' a) : ∀ {v : V} {d : D}, Rep K H M v d → Rep K H' M' v d
  | _, _, .non => .non
  | _, _, .bl b => .bl b
  | _, _, .int i => .int i
  | _, _, .str x => .str x
  | _, _, .lst z m r => .lst (c _ _ z m).1 (c _ _ z m).2 (Reps.conv c r)
  | _, _, .tup f r => .tup (f.elim (fun ⟨z, m⟩ => .inl ⟨z.elim (fun z => .inl (c _ _ z m).1) fun ⟨o, z⟩ => .inr ⟨o, (c _ _ z m).1⟩, z.elim (fun z => (c _ _ z m).2) fun ⟨o, z⟩ => (c _ _ z m).2⟩) .inr) (Reps.conv c r)
theorem Reps.conv {K : PySem.W.Frag} {H H' : Hp} {M M' : Addr → Prop} (c : ∀ a o, H a = some o → ¬ M a → H' a = some o ∧ ¬ M' a) : ∀ {vs : List V} {ds : List D}, Reps K H M vs ds → Reps K H' M' vs ds
  | _, _, .nil => .nil
  | _, _, .cons r t => .cons (Rep.conv c r) (Reps.conv c t)
end
mutual
theorem Rep.dp {K : PySem.W.Frag} {H : Hp} {M : Addr → Prop} : ∀ {v : V} {d : D}, Rep K H M v d → Dp K H v d
  | _, _, .non => .non
  | _, _, .bl b => .bl b
  | _, _, .int i => .int i
  | _, _, .str x => .str x
  | _, _, .lst f _ r => .lst (SqL.of f) (Reps.dp r)
  | _, _, .tup f r => .tup f.sq (Reps.dp r)
theorem Reps.dp {K : PySem.W.Frag} {H : Hp} {M : Addr → Prop} : ∀ {vs : List V} {ds : List D}, Reps K H M vs ds → DpAll K H vs ds
  | _, _, .nil => .nil
  | _, _, .cons r t => .cons (Rep.dp r) (Reps.dp t)
end
section
variable {K : PySem.W.Frag} {H : Hp} {M : Addr → Prop}
theorem Reps.length : ∀ {vs : List V} {ds : List D}, Reps K H M vs ds → vs.length = ds.length
  | _, _, .nil => rfl
  | _, _, .cons _ t => by rw [List.length_cons, List.length_cons, Reps.length t]
theorem Reps.get : ∀ {vs : List V} {ds : List D} {i : Nat} {d : D}, Reps K H M vs ds → ds[i]? = some d → ∃ v, vs[i]? = some v ∧ Rep K H M v d
  | _, _, _, _, .nil, e => by simp at e
  | _, _, 0, _, .cons r _, e => by simp at e; subst e; exact ⟨_, rfl, r⟩
  | _, _, i + 1, _, .cons _ t, e => by
    obtain ⟨v, h1, h2⟩ := Reps.get (i := i) t (by simpa using e)
    exact ⟨v, by simpa using h1, h2⟩
theorem Reps.get' {vs : List V} {ds : List D} {i : Nat} {v : V} (r : Reps K H M vs ds) (e : vs[i]? = some v) : ∃ d, ds[i]? = some d ∧ Rep K H M v d := by
  have hi : i < vs.length := (List.getElem?_eq_some_iff.mp e).1
  have hd : ds[i]? = some (ds[i]'(by rw [← r.length]; exact hi)) := List.getElem?_eq_getElem _
  obtain ⟨w, h1, h2⟩ := r.get hd
  rw [e] at h1
  cases h1
  exact ⟨_, hd, h2⟩
theorem Reps.set {v : V} {d : D} (q : Rep K H M v d) : ∀ {vs : List V} {ds : List D} (i : Nat), Reps K H M vs ds → Reps K H M (vs.set i v) (ds.set i d)
  | _, _, _, .nil => .nil
  | _, _, 0, .cons _ t => .cons q t
  | _, _, i + 1, .cons r t => .cons r (Reps.set q i t)
theorem Reps.append : ∀ {vs ws : List V} {ds es : List D}, Reps K H M vs ds → Reps K H M ws es → Reps K H M (vs ++ ws) (ds ++ es)
  | _, _, _, _, .nil, s => s
  | _, _, _, _, .cons r t, s => .cons r (Reps.append t s)
theorem Reps.drop : ∀ {vs : List V} {ds : List D} (n : Nat), Reps K H M vs ds → Reps K H M (vs.drop n) (ds.drop n)
  | _, _, 0, r => r
  | _, _, _ + 1, .nil => .nil
  | _, _, n + 1, .cons _ t => Reps.drop n t
theorem Reps.take : ∀ {vs : List V} {ds : List D} (n : Nat), Reps K H M vs ds → Reps K H M (vs.take n) (ds.take n)
  | _, _, 0, _ => .nil
  | _, _, _ + 1, .nil => .nil
  | _, _, n + 1, .cons r t => .cons r (Reps.take n t)
theorem Reps.cut {vs : List V} {ds : List D} (r : Reps K H M vs ds) (lo hi : Option Int) : Reps K H M (cutV vs lo hi) (cutD ds lo hi) := by
  unfold cutV cutD
  rw [r.length]
  exact (r.drop _).take _
theorem Reps.rep {vs : List V} {ds : List D} (r : Reps K H M vs ds) : ∀ n : Nat, Reps K H M (List.replicate n vs).flatten (List.replicate n ds).flatten
  | 0 => .nil
  | n + 1 => by
    rw [List.replicate_succ, List.replicate_succ, List.flatten_cons, List.flatten_cons]
    exact r.append (Reps.rep r n)
theorem Reps.of_get {vs : List V} {ds : List D} (hl : vs.length = ds.length) (h : ∀ (i : Nat) v d, vs[i]? = some v → ds[i]? = some d → Rep K H M v d) : Reps K H M vs ds := by
  induction vs generalizing ds with
  | nil =>
    cases ds with
    | nil => exact .nil
    | cons _ _ => simp at hl
  | cons v vs ih =>
    cases ds with
    | nil => simp at hl
    | cons d ds => exact .cons (h 0 v d rfl rfl) (ih (by simpa using hl) fun i w e h1 h2 => h (i + 1) w e (by simpa using h1) (by simpa using h2))
end
/-! ### the world -/
structure Wd where
  mu : List Addr
  la : List Addr
  F : Addr → Prop
def Wd.M (w : Wd) (st : Sto) (a : Addr) : Prop := a ∈ w.mu ∨ (∃ (n : Nat) (xs : List D), w.la[n]? = some a ∧ st.l[n]? = some (some xs)) ∨ w.F a
structure WOk (K : PySem.W.Frag) (H : Hp) (w : Wd) (st : Sto) : Prop where
  lg : w.mu.length = st.g.length
  ll : w.la.length = st.l.length
  g : ∀ (n : Nat) (xs : List D), st.g[n]? = some xs → ∃ a vs, w.mu[n]? = some a ∧ H a = some (.lst vs) ∧ Reps K H (w.M st) vs xs
  l : ∀ (n : Nat) (xs : List D), st.l[n]? = some (some xs) → ∃ a vs, w.la[n]? = some a ∧ H a = some (.lst vs) ∧ Reps K H (w.M st) vs xs
  fz : ∀ (n : Nat) (a : Addr), st.l[n]? = some none → w.la[n]? = some a → ∃ o, H a = some (.lst o)
  nd : (w.mu ++ w.la).Nodup
  fF : ∀ a, w.F a → (∃ o, H a = some o) ∧ a ∉ w.mu ∧ a ∉ w.la
structure Le (H : Hp) (w : Wd) (st : Sto) (H' : Hp) (w' : Wd) (st' : Sto) : Prop where
  F : w'.F = w.F
  mu : ∃ t, w'.mu = w.mu ++ t
  la : ∃ t, w'.la = w.la ++ t
  fr : ∀ a o, H a = some o → ¬ w.M st a → H' a = some o ∧ ¬ w'.M st' a
  fo : ∀ a, w.F a → H' a = H a
def EVRep (K : PySem.W.Frag) (H : Hp) (w : Wd) (st : Sto) (v : V) : EV → Prop
  | .d x => Rep K H (w.M st) v x
  | .lm n => ∃ a, v = .ref a ∧ w.la[n]? = some a
  | .gm n => ∃ a, v = .ref a ∧ w.mu[n]? = some a
  | .sc ds => ∃ a xs, v = .ref a ∧ FzL K H (w.M st) a xs ∧ Reps K H (w.M st) xs ds
inductive EVReps (K : PySem.W.Frag) (H : Hp) (w : Wd) (st : Sto) : List V → List EV → Prop
  | nil : EVReps K H w st [] []
  | cons {v : V} {vs : List V} {d : EV} {ds : List EV} : EVRep K H w st v d → EVReps K H w st vs ds → EVReps K H w st (v :: vs) (d :: ds)
def EnvRep (K : PySem.W.Frag) (H : Hp) (w : Wd) (st : Sto) (σ : L2.St) (env : En) : Prop := env.length = σ.length ∧ ∀ (i : Nat) (ev : EV), env[i]? = some (some ev) → ∃ v, σ[i]? = some (some v) ∧ EVRep K H w st v ev
theorem pre_get {α : Type} {l l' : List α} {n : Nat} {a : α} (h : ∃ t, l' = l ++ t) (e : l[n]? = some a) : l'[n]? = some a := by
  obtain ⟨t, rfl⟩ := h
  have hi : n < l.length := (List.getElem?_eq_some_iff.mp e).1
  rw [List.getElem?_append_left hi]
  exact e
section
variable {K : PySem.W.Frag} {H H1 H2 : Hp} {w w1 w2 : Wd} {st st1 st2 : Sto}
theorem Le.refl : Le H w st H w st := ⟨rfl, ⟨[], by simp⟩, ⟨[], by simp⟩, fun _ _ h m => ⟨h, m⟩, fun _ _ => rfl⟩
theorem Le.trans (a : Le H w st H1 w1 st1) (b : Le H1 w1 st1 H2 w2 st2) : Le H w st H2 w2 st2 where
  F := b.F.trans a.F
  mu := by
    obtain ⟨t, e⟩ := a.mu
    obtain ⟨u, e'⟩ := b.mu
    exact ⟨t ++ u, by rw [e', e, List.append_assoc]⟩
  la := by
    obtain ⟨t, e⟩ := a.la
    obtain ⟨u, e'⟩ := b.la
    exact ⟨t ++ u, by rw [e', e, List.append_assoc]⟩
  fr := fun c o h m => let z := a.fr c o h m; b.fr c o z.1 z.2
  fo := fun c h => (b.fo c (by rw [a.F]; exact h)).trans (a.fo c h)
theorem Rep.le {v : V} {d : D} (r : Rep K H (w.M st) v d) (l : Le H w st H1 w1 st1) : Rep K H1 (w1.M st1) v d := r.conv l.fr
theorem Reps.le {v : List V} {d : List D} (r : Reps K H (w.M st) v d) (l : Le H w st H1 w1 st1) : Reps K H1 (w1.M st1) v d := r.conv l.fr
theorem FzL.conv {K : PySem.W.Frag} {H H' : Hp} {M M' : Addr → Prop} (c : ∀ a o, H a = some o → ¬ M a → H' a = some o ∧ ¬ M' a) {a : Addr} {xs : List V} (f : FzL K H M a xs) : FzL K H' M' a xs :=
  f.elim (fun ⟨z, m⟩ => .inl ⟨z.elim (fun z => .inl (c _ _ z m).1) fun ⟨o, z⟩ => .inr ⟨o, (c _ _ z m).1⟩, z.elim (fun z => (c _ _ z m).2) fun ⟨o, z⟩ => (c _ _ z m).2⟩) .inr
theorem EVRep.le {v : V} {ev : EV} (r : EVRep K H w st v ev) (l : Le H w st H1 w1 st1) : EVRep K H1 w1 st1 v ev := by
  cases ev with
  | d x => exact Rep.le r l
  | lm n =>
    obtain ⟨a, e, h⟩ := r
    exact ⟨a, e, pre_get l.la h⟩
  | gm n =>
    obtain ⟨a, e, h⟩ := r
    exact ⟨a, e, pre_get l.mu h⟩
  | sc ds =>
    obtain ⟨a, xs, e, f, q⟩ := r
    exact ⟨a, xs, e, f.conv l.fr, Reps.le q l⟩
theorem EVReps.le {vs : List V} {evs : List EV} (r : EVReps K H w st vs evs) (l : Le H w st H1 w1 st1) : EVReps K H1 w1 st1 vs evs := by
  induction r with
  | nil => exact .nil
  | cons a _ ih => exact .cons (EVRep.le a l) ih
theorem EnvRep.le {σ : L2.St} {env : En} (r : EnvRep K H w st σ env) (l : Le H w st H1 w1 st1) : EnvRep K H1 w1 st1 σ env :=
  ⟨r.1, fun i ev h => let ⟨v, e, q⟩ := r.2 i ev h; ⟨v, e, q.le l⟩⟩
theorem look_get : ∀ {env : En} {i : Nat} {ev : EV}, look env i = some ev → env[i]? = some (some ev)
  | [], _, _, h => by cases h
  | a :: _, 0, _, h => by
    have h' : a = some _ := h
    rw [h']; rfl
  | _ :: r, i + 1, _, h => by
    rw [List.getElem?_cons_succ]
    exact look_get (env := r) h
theorem EnvRep.look {σ : L2.St} {env : En} (r : EnvRep K H w st σ env) {i : Nat} {ev : EV} (h : look env i = some ev) : ∃ v, σ[i]? = some (some v) ∧ EVRep K H w st v ev := r.2 i ev (look_get h)
theorem put_eq : ∀ (env : En) (i : Nat) (ev : EV), put env i ev = env.set i (some ev)
  | [], _, _ => rfl
  | _ :: _, 0, _ => rfl
  | a :: r, i + 1, ev => by
    show a :: put r i ev = a :: r.set i (some ev)
    rw [put_eq r i ev]
theorem EnvRep.put {σ : L2.St} {env : En} (r : EnvRep K H w st σ env) {v : V} {ev : EV} (q : EVRep K H w st v ev) (i : Nat) : EnvRep K H w st (σ.set i (some v)) (put env i ev) := by
  rw [put_eq]
  refine ⟨by rw [List.length_set, List.length_set]; exact r.1, fun j ev' h => ?_⟩
  by_cases hj : i = j
  · subst hj
    have hi : i < env.length := by
      have := (List.getElem?_eq_some_iff.mp h).1
      rwa [List.length_set] at this
    rw [List.getElem?_set_self hi] at h
    cases h
    exact ⟨v, List.getElem?_set_self (by rw [← r.1]; exact hi), q⟩
  · rw [List.getElem?_set_ne hj] at h
    rw [List.getElem?_set_ne hj]
    exact r.2 j ev' h
theorem EnvRep.wipe {σ : L2.St} {env : En} (r : EnvRep K H w st σ env) : ∀ own : List Nat, EnvRep K H w st (L2.wipe σ own) (wipeE env own)
  | [] => r
  | v :: vs => by
    have ih := EnvRep.wipe r vs
    unfold L2.wipe wipeE
    refine ⟨by rw [List.length_set, List.length_set]; exact ih.1, fun j ev h => ?_⟩
    by_cases hj : v = j
    · subst hj
      have hi : v < (wipeE env vs).length := by
        have := (List.getElem?_eq_some_iff.mp h).1
        rwa [List.length_set] at this
      rw [List.getElem?_set_self hi] at h
      cases h
    · rw [List.getElem?_set_ne hj] at h
      rw [List.getElem?_set_ne hj]
      exact ih.2 j ev h
/-- a fresh address is none that may change -/
theorem WOk.notM (ok : WOk K H w st) {p : Addr} (n : H p = none) : ¬ w.M st p ∧ p ∉ w.mu ∧ p ∉ w.la := by
  have h1 : p ∉ w.mu := fun h => by
    obtain ⟨i, hi⟩ := List.mem_iff_getElem?.mp h
    have hl : i < st.g.length := by rw [← ok.lg]; exact (List.getElem?_eq_some_iff.mp hi).1
    obtain ⟨a, vs, e, q, _⟩ := ok.g i _ (List.getElem?_eq_getElem hl)
    rw [hi] at e
    cases e
    rw [n] at q
    cases q
  have h2 : p ∉ w.la := fun h => by
    obtain ⟨i, hi⟩ := List.mem_iff_getElem?.mp h
    have hl : i < st.l.length := by rw [← ok.ll]; exact (List.getElem?_eq_some_iff.mp hi).1
    have hs : st.l[i]? = some st.l[i] := List.getElem?_eq_getElem hl
    cases q : st.l[i] with
    | none =>
      rw [q] at hs
      obtain ⟨o, z⟩ := ok.fz i p hs hi
      rw [n] at z
      cases z
    | some xs =>
      rw [q] at hs
      obtain ⟨a, vs, e, z, _⟩ := ok.l i xs hs
      rw [hi] at e
      cases e
      rw [n] at z
      cases z
  refine ⟨fun h => ?_, h1, h2⟩
  rcases h with h | ⟨i, xs, h, _⟩ | h
  · exact h1 h
  · exact h2 (List.mem_iff_getElem?.mpr ⟨i, h⟩)
  · obtain ⟨⟨o, z⟩, _⟩ := ok.fF p h
    rw [n] at z
    cases z
theorem Le.fresh {p : Addr} {o : HO} (n : H p = none) (ok : WOk K H w st) : Le H w st (upd H p o) w st :=
  ⟨rfl, ⟨[], by simp⟩, ⟨[], by simp⟩, fun a u h m => ⟨by rw [upd_ne (ne_of_none h n)]; exact h, m⟩, fun a h => by
    obtain ⟨⟨u, z⟩, _⟩ := ok.fF a h
    rw [upd_ne (ne_of_none z n)]⟩
theorem WOk.fresh {p : Addr} {o : HO} (n : H p = none) (ok : WOk K H w st) : WOk K (upd H p o) w st := by
  have le := Le.fresh (o := o) n ok
  refine ⟨ok.lg, ok.ll, fun i xs h => ?_, fun i xs h => ?_, fun i a h e => ?_, ok.nd, fun a h => ?_⟩
  · obtain ⟨a, vs, e, z, r⟩ := ok.g i xs h
    exact ⟨a, vs, e, by rw [upd_ne (ne_of_none z n)]; exact z, r.le le⟩
  · obtain ⟨a, vs, e, z, r⟩ := ok.l i xs h
    exact ⟨a, vs, e, by rw [upd_ne (ne_of_none z n)]; exact z, r.le le⟩
  · obtain ⟨u, z⟩ := ok.fz i a h e
    exact ⟨u, by rw [upd_ne (ne_of_none z n)]; exact z⟩
  · obtain ⟨⟨u, z⟩, q⟩ := ok.fF a h
    exact ⟨⟨u, by rw [upd_ne (ne_of_none z n)]; exact z⟩, q⟩
/-- a new tuple, a new list that stays -/
theorem new_tup {p : Addr} {vs : List V} {xs : List D} (n : H p = none) (ok : WOk K H w st) (r : Reps K H (w.M st) vs xs) : Le H w st (upd H p (.tup vs)) w st ∧ WOk K (upd H p (.tup vs)) w st ∧ Rep K (upd H p (.tup vs)) (w.M st) (.ref p) (.tuple xs) :=
  ⟨Le.fresh n ok, ok.fresh n, .tup (.inl ⟨.inl upd_same, (ok.notM n).1⟩) (r.le (Le.fresh n ok))⟩
theorem new_lst0 {p : Addr} {vs : List V} {xs : List D} (n : H p = none) (ok : WOk K H w st) (r : Reps K H (w.M st) vs xs) : Le H w st (upd H p (.lst vs)) w st ∧ WOk K (upd H p (.lst vs)) w st ∧ Rep K (upd H p (.lst vs)) (w.M st) (.ref p) (.list xs) :=
  ⟨Le.fresh n ok, ok.fresh n, .lst upd_same (ok.notM n).1 (r.le (Le.fresh n ok))⟩
theorem nodup_snoc {α : Type} {l : List α} {a : α} (h : l.Nodup) (n : a ∉ l) : (l ++ [a]).Nodup := by
  rw [List.nodup_append]
  exact ⟨h, by simp, fun x hx y hy e => by
    have : y = a := by simpa using hy
    subst this; subst e
    exact n hx⟩
/-- a new list of the frame's own -/
theorem new_lm {p : Addr} {vs : List V} {xs : List D} (n : H p = none) (ok : WOk K H w st) (r : Reps K H (w.M st) vs xs) :
    Le H w st (upd H p (.lst vs)) { w with la := w.la ++ [p] } ⟨st.g, st.l ++ [some xs]⟩ ∧ WOk K (upd H p (.lst vs)) { w with la := w.la ++ [p] } ⟨st.g, st.l ++ [some xs]⟩ ∧ EVRep K (upd H p (.lst vs)) { w with la := w.la ++ [p] } ⟨st.g, st.l ++ [some xs]⟩ (.ref p) (.lm st.l.length) := by
  obtain ⟨nM, nm, nl⟩ := ok.notM n
  have hM : ∀ a, Wd.M { w with la := w.la ++ [p] } ⟨st.g, st.l ++ [some xs]⟩ a → w.M st a ∨ a = p := fun a h => by
    rcases h with h | ⟨i, ys, h, h2⟩ | h
    · exact .inl (.inl h)
    · by_cases hi : i < w.la.length
      · have h1 : w.la[i]? = some a := by
          have h' : (w.la ++ [p])[i]? = some a := h
          rwa [List.getElem?_append_left hi] at h'
        have h3 : st.l[i]? = some (some ys) := by
          have h' : (st.l ++ [some xs])[i]? = some (some ys) := h2
          rwa [List.getElem?_append_left (by rw [← ok.ll]; exact hi)] at h'
        exact .inl (.inr (.inl ⟨i, ys, h1, h3⟩))
      · have h' : (w.la ++ [p])[i]? = some a := h
        rw [List.getElem?_append_right (by omega)] at h'
        have : a ∈ [p] := List.mem_iff_getElem?.mpr ⟨_, h'⟩
        exact .inr (by simpa using this)
    · exact .inl (.inr (.inr h))
  have le : Le H w st (upd H p (.lst vs)) { w with la := w.la ++ [p] } ⟨st.g, st.l ++ [some xs]⟩ :=
    ⟨rfl, ⟨[], by simp⟩, ⟨[p], rfl⟩, fun a u h m => ⟨by rw [upd_ne (ne_of_none h n)]; exact h, fun q => (hM a q).elim m (ne_of_none h n)⟩, fun a h => by
      obtain ⟨⟨u, z⟩, _⟩ := ok.fF a h
      rw [upd_ne (ne_of_none z n)]⟩
  refine ⟨le, ⟨ok.lg, by simp [ok.ll], fun i ys h => ?_, fun i ys h => ?_, fun i a h e => ?_, ?_, fun a h => ?_⟩, ⟨p, rfl, ?_⟩⟩
  · obtain ⟨a, us, e, z, q⟩ := ok.g i ys h
    exact ⟨a, us, e, by rw [upd_ne (ne_of_none z n)]; exact z, q.le le⟩
  · by_cases hi : i < st.l.length
    · have h1 : st.l[i]? = some (some ys) := by
        have h' : (st.l ++ [some xs])[i]? = some (some ys) := h
        rwa [List.getElem?_append_left hi] at h'
      obtain ⟨a, us, e, z, q⟩ := ok.l i ys h1
      exact ⟨a, us, pre_get ⟨[p], rfl⟩ e, by rw [upd_ne (ne_of_none z n)]; exact z, q.le le⟩
    · have h' : (st.l ++ [some xs])[i]? = some (some ys) := h
      have hi2 : i = st.l.length := by
        have := (List.getElem?_eq_some_iff.mp h').1
        rw [List.length_append] at this
        simp at this
        omega
      subst hi2
      rw [List.getElem?_append_right (Nat.le_refl _)] at h'
      simp at h'
      subst h'
      refine ⟨p, vs, ?_, upd_same, r.le le⟩
      show (w.la ++ [p])[st.l.length]? = some p
      rw [List.getElem?_append_right (by rw [ok.ll]; exact Nat.le_refl _), ok.ll]
      simp
  · have h' : (st.l ++ [some xs])[i]? = some none := h
    have hi : i < st.l.length := by
      refine Classical.byContradiction fun hc => ?_
      have hi2 : i = st.l.length := by
        have := (List.getElem?_eq_some_iff.mp h').1
        rw [List.length_append] at this
        simp at this
        omega
      subst hi2
      rw [List.getElem?_append_right (Nat.le_refl _)] at h'
      simp at h'
    rw [List.getElem?_append_left hi] at h'
    have e' : (w.la ++ [p])[i]? = some a := e
    rw [List.getElem?_append_left (by rw [ok.ll]; exact hi)] at e'
    obtain ⟨u, z⟩ := ok.fz i a h' e'
    exact ⟨u, by rw [upd_ne (ne_of_none z n)]; exact z⟩
  · show (w.mu ++ (w.la ++ [p])).Nodup
    rw [← List.append_assoc]
    exact nodup_snoc ok.nd fun h => (List.mem_append.mp h).elim nm nl
  · obtain ⟨⟨u, z⟩, q1, q2⟩ := ok.fF a h
    exact ⟨⟨u, by rw [upd_ne (ne_of_none z n)]; exact z⟩, q1, fun h => (List.mem_append.mp h).elim q2 fun h => ne_of_none z n (by simpa using h)⟩
  · show (w.la ++ [p])[st.l.length]? = some p
    rw [List.getElem?_append_right (by rw [ok.ll]; exact Nat.le_refl _), ok.ll]
    simp
/-- a new list that outlives the frame -/
theorem new_gm {p : Addr} {vs : List V} {xs : List D} (n : H p = none) (ok : WOk K H w st) (r : Reps K H (w.M st) vs xs) :
    Le H w st (upd H p (.lst vs)) { w with mu := w.mu ++ [p] } ⟨st.g ++ [xs], st.l⟩ ∧ WOk K (upd H p (.lst vs)) { w with mu := w.mu ++ [p] } ⟨st.g ++ [xs], st.l⟩ ∧ EVRep K (upd H p (.lst vs)) { w with mu := w.mu ++ [p] } ⟨st.g ++ [xs], st.l⟩ (.ref p) (.gm st.g.length) := by
  obtain ⟨nM, nm, nl⟩ := ok.notM n
  have hM : ∀ a, Wd.M { w with mu := w.mu ++ [p] } ⟨st.g ++ [xs], st.l⟩ a → w.M st a ∨ a = p := fun a h => by
    rcases h with h | h | h
    · rcases List.mem_append.mp h with h | h
      · exact .inl (.inl h)
      · exact .inr (by simpa using h)
    · exact .inl (.inr (.inl h))
    · exact .inl (.inr (.inr h))
  have le : Le H w st (upd H p (.lst vs)) { w with mu := w.mu ++ [p] } ⟨st.g ++ [xs], st.l⟩ :=
    ⟨rfl, ⟨[p], rfl⟩, ⟨[], by simp⟩, fun a u h m => ⟨by rw [upd_ne (ne_of_none h n)]; exact h, fun q => (hM a q).elim m (ne_of_none h n)⟩, fun a h => by
      obtain ⟨⟨u, z⟩, _⟩ := ok.fF a h
      rw [upd_ne (ne_of_none z n)]⟩
  refine ⟨le, ⟨by simp [ok.lg], ok.ll, fun i ys h => ?_, fun i ys h => ?_, fun i a h e => ?_, ?_, fun a h => ?_⟩, ⟨p, rfl, ?_⟩⟩
  · by_cases hi : i < st.g.length
    · have h1 : st.g[i]? = some ys := by
        have h' : (st.g ++ [xs])[i]? = some ys := h
        rwa [List.getElem?_append_left hi] at h'
      obtain ⟨a, us, e, z, q⟩ := ok.g i ys h1
      exact ⟨a, us, pre_get ⟨[p], rfl⟩ e, by rw [upd_ne (ne_of_none z n)]; exact z, q.le le⟩
    · have h' : (st.g ++ [xs])[i]? = some ys := h
      have hi2 : i = st.g.length := by
        have := (List.getElem?_eq_some_iff.mp h').1
        rw [List.length_append] at this
        simp at this
        omega
      subst hi2
      rw [List.getElem?_append_right (Nat.le_refl _)] at h'
      simp at h'
      subst h'
      refine ⟨p, vs, ?_, upd_same, r.le le⟩
      show (w.mu ++ [p])[st.g.length]? = some p
      rw [List.getElem?_append_right (by rw [ok.lg]; exact Nat.le_refl _), ok.lg]
      simp
  · obtain ⟨a, us, e, z, q⟩ := ok.l i ys h
    exact ⟨a, us, e, by rw [upd_ne (ne_of_none z n)]; exact z, q.le le⟩
  · obtain ⟨u, z⟩ := ok.fz i a h e
    exact ⟨u, by rw [upd_ne (ne_of_none z n)]; exact z⟩
  · show ((w.mu ++ [p]) ++ w.la).Nodup
    rw [List.append_assoc]
    refine (List.Perm.nodup_iff (List.Perm.append_left w.mu (List.perm_append_comm (l₁ := [p]) (l₂ := w.la)))).mpr ?_
    rw [← List.append_assoc]
    exact nodup_snoc ok.nd fun h => (List.mem_append.mp h).elim nm nl
  · obtain ⟨⟨u, z⟩, q1, q2⟩ := ok.fF a h
    exact ⟨⟨u, by rw [upd_ne (ne_of_none z n)]; exact z⟩, fun h => (List.mem_append.mp h).elim q1 fun h => ne_of_none z n (by simpa using h), q2⟩
  · show (w.mu ++ [p])[st.g.length]? = some p
    rw [List.getElem?_append_right (by rw [ok.lg]; exact Nat.le_refl _), ok.lg]
    simp
/-- a new list by its kind -/
theorem new_lst {kd : Nat} {p : Addr} {vs : List V} {xs : List D} {k : KE} (n : H p = none) (ok : WOk K H w st) (r : Reps K H (w.M st) vs xs) (h : newL kd xs st k) :
    ∃ ev w' st', Le H w st (upd H p (.lst vs)) w' st' ∧ WOk K (upd H p (.lst vs)) w' st' ∧ EVRep K (upd H p (.lst vs)) w' st' (.ref p) ev ∧ k ev st' := by
  unfold newL at h
  split at h
  · obtain ⟨a, b, c⟩ := new_lst0 n ok r
    exact ⟨.d (.list xs), w, st, a, b, c, h⟩
  · obtain ⟨a, b, c⟩ := new_lm n ok r
    exact ⟨_, _, _, a, b, c, h⟩
  · obtain ⟨a, b, c⟩ := new_gm n ok r
    exact ⟨_, _, _, a, b, c, h⟩
end
end VI

/-! VI4: operators, calls of built-ins, by data. -/
namespace VI
open PySem PySem.Spec PyProof.Rows L2
theorem PE.mono {X : Cx} {e : Expr} {t t' : TE} (h : PE X e t) (m : ∀ σ H Q, t' σ H Q → t σ H Q) : PE X e t' := ⟨fun pins s σ H Q I q => h.run pins s σ H Q I (m σ H Q q)⟩
theorem PT.mono {X : Cx} {e : Expr} {t t' : TT} (h : PT X e t) (m : ∀ σ H Q, t' σ H Q → t σ H Q) : PT X e t' := ⟨fun pins s σ H Q I q => h.run pins s σ H Q I (m σ H Q q)⟩
theorem PW.mono {X : Cx} {e : Expr} {t t' : TT} (h : PW X e t) (m : ∀ σ H Q, t' σ H Q → t σ H Q) : PW X e t' := ⟨fun wh pins s σ H Q I q => h.run wh pins s σ H Q I (m σ H Q q)⟩
theorem PA.mono {X : Cx} {e : List Expr} {t t' : TA} (h : PA X e t) (m : ∀ σ H Q, t' σ H Q → t σ H Q) : PA X e t' := ⟨fun pos pins s σ H Q I q => h.run pos pins s σ H Q I (m σ H Q q)⟩
theorem PS.mono {X : Cx} {e : Stmt} {t t' : TS} (h : PS X e t) (m : ∀ D σ H, t' D σ H → t D σ H) : PS X e t' := ⟨fun pins s σ H D I q => h.run pins s σ H D I (m D σ H q)⟩
theorem PSs.mono {X : Cx} {e : List Stmt} {t t' : TS} (h : PSs X e t) (m : ∀ D σ H, t' D σ H → t D σ H) : PSs X e t' := ⟨fun pins s σ H D I q => h.run pins s σ H D I (m D σ H q)⟩
theorem PO.mono {X : Cx} {e : Option Expr} {t t' : TO} (h : PO X e t) (m : ∀ σ H Q, t' σ H Q → t σ H Q) : PO X e t' := ⟨fun pins s σ H Q I q => h.run pins s σ H Q I (m σ H Q q)⟩
theorem PI.mono {X : Cx} {tg e : Expr} {t t' : TI} (h : PI X tg e t) (m : ∀ σ H R, t' σ H R → t σ H R) : PI X tg e t' := ⟨fun pins s σ H R I q => h.run pins s σ H R I (m σ H R q)⟩
theorem PG.mono {X : Cx} {e : Expr} {t t' : TG} (h : PG X e t) (m : ∀ v σ H Q, t' v σ H Q → t v σ H Q) : PG X e t' := ⟨fun pins s σ H v u Q I r q => h.run pins s σ H v u Q I r (m v σ H Q q)⟩

/-- what is wanted behind an operation that makes no list that may change -/
abbrev Post (K : PySem.W.Frag) (H : Hp) (w : Wd) (st : Sto) (Q : VK) (ev : EV) : Prop := ∀ v H', Le H w st H' w st → WOk K H' w st → EVRep K H' w st v ev → Q v H'
abbrev PostW (K : PySem.W.Frag) (H : Hp) (w : Wd) (st : Sto) (Q : VK) (ev : EV) (st' : Sto) : Prop := ∀ v H' w', Le H w st H' w' st' → WOk K H' w' st' → EVRep K H' w' st' v ev → Q v H'
def opA : BOp → Operator
  | .add => .Add | .sub => .Sub | .mul => .Mult | .fdiv => .FloorDiv | .fdivw => .FloorDiv | .mod => .Mod | .pow => .Pow
def opC : COp → CmpOp
  | .lt => .Lt | .le => .LtE | .gt => .Gt | .ge => .GtE | .eq => .Eq | .ne => .NotEq | .isin => .In | .notin => .NotIn
def rBin (K : PySem.W.Frag) (o : BOp) : R2 := fun x y H Q => ∃ w st ex ey, WOk K H w st ∧ EVRep K H w st x ex ∧ EVRep K H w st y ey ∧ binK o ex ey (Post K H w st Q)
def rCmp (K : PySem.W.Frag) (o : COp) : R2 := fun x y H Q => ∃ w st ex ey, WOk K H w st ∧ EVRep K H w st x ex ∧ EVRep K H w st y ey ∧ cmpK o ex ey st fun b => Q (.bl b) H
structure XOk (X : Cx) : Prop where
  calm : X.calm = true
  xe : X.xe = fun _ _ => False
  hu : X.A.units + 65 < cLine
  gd : X.A.guards = some []
  nodig : X.base.NoDigits
theorem line6 : (1000000 : Nat) ≤ sizeLine := by rw [sizeLine_eq]; decide
section
variable {X : Cx}
theorem op_fdivA : OpR X (binaryOp .FloorDiv) (rI (fun _ j => j ≠ 0 ∧ j.natAbs.log2 < 9000) fun i j => .int (i.fdiv j)) := opI fun _ _ _ _ _ _ _ hc q => floordiv_int hc.1 q (.inl (PyProof.noPylong_of_log2 hc.2))
theorem iop_fdivA : OpR X (inplaceOp .FloorDiv) (rI (fun _ j => j ≠ 0 ∧ j.natAbs.log2 < 9000) fun i j => .int (i.fdiv j)) := opI fun _ _ _ _ _ _ _ hc q => ifloordiv_int hc.1 q (.inl (PyProof.noPylong_of_log2 hc.2))
theorem noPylong_wide {x y : Int} (h0 : y ≠ 0) (h : x.natAbs.log2 ≤ y.natAbs.log2 + 4400) : Builtin.divisionGoesByPylong x y = false := by
  have hy : (if y == 0 then 0 else y.natAbs.log2 / 30 + 1) = y.natAbs.log2 / 30 + 1 := if_neg (by simpa using h0)
  have hx : (if x == 0 then 0 else x.natAbs.log2 / 30 + 1) ≤ x.natAbs.log2 / 30 + 1 := by
    split
    · omega
    · exact Nat.le_refl _
  refine Bool.and_eq_false_iff.mpr (.inr (decide_eq_false ?_))
  show ¬ ((if x == 0 then 0 else x.natAbs.log2 / 30 + 1) > (if y == 0 then 0 else y.natAbs.log2 / 30 + 1) + 150)
  rw [hy]
  omega
theorem op_fdivW : OpR X (binaryOp .FloorDiv) (rI (fun i j => j ≠ 0 ∧ (j.natAbs.log2 < 9000 ∨ i.natAbs.log2 ≤ j.natAbs.log2 + 4400)) fun i j => .int (i.fdiv j)) := opI fun _ _ _ _ _ _ _ hc q => floordiv_int hc.1 q (.inl (hc.2.elim (fun z => PyProof.noPylong_of_log2 z) (fun z => noPylong_wide hc.1 z)))
theorem iop_fdivW : OpR X (inplaceOp .FloorDiv) (rI (fun i j => j ≠ 0 ∧ (j.natAbs.log2 < 9000 ∨ i.natAbs.log2 ≤ j.natAbs.log2 + 4400)) fun i j => .int (i.fdiv j)) := opI fun _ _ _ _ _ _ _ hc q => ifloordiv_int hc.1 q (.inl (hc.2.elim (fun z => PyProof.noPylong_of_log2 z) (fun z => noPylong_wide hc.1 z)))
theorem iop_mulW : OpR X (inplaceOp .Mult) (rI CMulW fun i j => .int (i * j)) := opI fun _ _ _ _ _ _ _ hc q => imul_int q hc.ok
theorem op_subB : OpR X (binaryOp .Sub) (fun x y H Q => ∃ i j : Bool, x = .bl i ∧ y = .bl j ∧ Q (.int ((if i = true then 1 else 0) - (if j = true then 1 else 0))) H) := by
  intro pins s σ H x y v u Q I rx ry h
  obtain ⟨i, j, rfl, rfl, q⟩ := h
  cases (show v = Value.bool i from rx)
  cases (show u = Value.bool j from ry)
  refine PyProof.Rows.sub_bool ⟨.int ((if i = true then 1 else 0) - (if j = true then 1 else 0)), H, I.tok _, ⟨s.toks, by cases i <;> cases j <;> rfl⟩, q⟩
/-- a tuple once, or not at all -/
theorem tuple_mulS (l : Addr) (items : Array Value) (n : Nat) (dd : Option Addr) (sl : Array (Option Value)) (x : Int) (u : Tok) (c0 : (decide (x < -(2 ^ 63)) || decide (x ≥ 2 ^ 63)) = false) (c1 : (items.isEmpty || x == 1) = true) :
    Meets (Builtin.«tuple.__mul__» ⟨[.ref l, .int x u], []⟩) (fun _ R s => s.heap.get? l = some { cls := .type "tuple", dict := dd, data := .seq items n, slots := sl } ∧ R (.ok (.ret (Value.ref l))) s) :=
  .of_wp fun prog w A R s h => by
    obtain ⟨hp, g, d, tk, os⟩ := s
    obtain ⟨hl, h⟩ := h
    have f1 := AutoSeq1.idx_int
    have f2 := AutoSeq1.sub_tuple_tuple
    wp_walk using wpAny_loadPart' hl
    repeat (first
      | (refine wpAny_ite_false (decide_eq_false (by rw [c0]; exact Bool.false_ne_true)) ?_; wp_walk using wpAny_loadPart' hl)
      | (refine wpAny_ite_true (decide_eq_true c1) ?_; wp_walk using wpAny_loadPart' hl))
    exact ⟨_, rfl, h⟩
theorem tuple_mulE (l : Addr) (items : Array Value) (n : Nat) (dd : Option Addr) (sl : Array (Option Value)) (x : Int) (u : Tok) (c0 : (decide (x < -(2 ^ 63)) || decide (x ≥ 2 ^ 63)) = false) (c1 : (items.isEmpty || x == 1) = false) (c2 : (decide (x ≤ 0) || items.isEmpty) = true) :
    Meets (Builtin.«tuple.__mul__» ⟨[.ref l, .int x u], []⟩) (fun _ R s => s.heap.get? l = some { cls := .type "tuple", dict := dd, data := .seq items n, slots := sl } ∧
      R (.ok (.ret (Value.ref s.heap.objs.size))) { s with heap := s.heap.push { cls := Value.type "tuple", data := Data.seq #[] }, toks := s.toks }) :=
  .of_wp fun prog w A R s h => by
    obtain ⟨hp, g, d, tk, os⟩ := s
    obtain ⟨hl, h⟩ := h
    have f1 := AutoSeq1.idx_int
    wp_walk using wpAny_loadPart' hl
    repeat (first
      | (refine wpAny_ite_false (decide_eq_false (by rw [c0]; exact Bool.false_ne_true)) ?_; wp_walk using wpAny_loadPart' hl)
      | (refine wpAny_ite_false (decide_eq_false (by rw [c1]; exact Bool.false_ne_true)) ?_; wp_walk using wpAny_loadPart' hl)
      | (refine wpAny_ite_true (decide_eq_true c2) ?_; wp_walk using wpAny_loadPart' hl))
    exact ⟨_, rfl, h⟩
theorem op_mulT {X : Cx} : OpR X (binaryOp .Mult) (fun x y H Q => ∃ l xs, ∃ b : Bool, x = .ref l ∧ y = .int (if b = true then 1 else 0) ∧ SqT X.K H l xs ∧ (b = true ∨ xs = [] → Q (.ref l) H) ∧ (b = false → xs ≠ [] → ∀ p, H p = none → Q (.ref p) (upd H p (.tup [])))) := by
  intro pins s σ H x y v u Q I rx ry h
  obtain ⟨l, xs, b, rfl, rfl, hT, q1, q2⟩ := h
  cases rx
  obtain ⟨t, rfl⟩ := ry
  obtain ⟨its, r, ⟨⟨cls, dd, data, sl⟩, ho, hc, n, hd⟩, hs⟩ := I.tuple hT
  simp only at hc hd
  subst hc hd
  have hle : its.length = xs.length := r.length.symm
  have c0 : (decide ((if b = true then (1 : Int) else 0) < -(2 ^ 63)) || decide ((if b = true then (1 : Int) else 0) ≥ 2 ^ 63)) = false := by
    cases b <;> decide
  by_cases hb : b = true ∨ xs = []
  · have c1 : (its.toArray.isEmpty || (if b = true then (1 : Int) else 0) == 1) = true := by
      rcases hb with rfl | rfl
      · simp
      · cases its with
        | nil => rfl
        | cons _ _ => simp at hle
    exact wpAny_binaryOp_repeat_ref (T := "tuple") (U := "int") (by decide) ⟨_, ho, rfl⟩ (fun s' => typeIs_int s' _ t) noFill_tuple_mul F.fills_int_mul F.slot_int_rmul repeat_tuple F.slot_int_index.lookup
      (call_meets F.slot_int_rmul (typeIs_int s _ t) F.entry_int_rmul (F.args_int_rmul_2 _ _) (int_rmul_tuple _ t l its.toArray n dd sl)
        ⟨ho, rfl, ⟨_, ho, rfl⟩, call_meets F.slot_tuple_mul ⟨_, ho, rfl⟩ F.entry_tuple_mul (F.args_tuple_mul_2 _ _) (tuple_mulS l its.toArray n dd sl _ t c0 c1) ⟨ho, ⟨.ref l, H, I, rfl, q1 hb⟩⟩⟩)
  · have hb1 : b = false := by
      cases b with
      | true => exact absurd (.inl rfl) hb
      | false => rfl
    subst hb1
    have hx : xs ≠ [] := fun z => hb (.inr z)
    have hi : its.toArray.isEmpty = false := by
      cases its with
      | nil => exact absurd (List.eq_nil_of_length_eq_zero (by rw [← hle]; rfl)) hx
      | cons a b => rfl
    have c1 : (its.toArray.isEmpty || (if false = true then (1 : Int) else 0) == 1) = false := by
      rw [hi]; rfl
    refine wpAny_binaryOp_repeat_ref (T := "tuple") (U := "int") (by decide) ⟨_, ho, rfl⟩ (fun s' => typeIs_int s' _ t) noFill_tuple_mul F.fills_int_mul F.slot_int_rmul repeat_tuple F.slot_int_index.lookup
      (call_meets F.slot_int_rmul (typeIs_int s _ t) F.entry_int_rmul (F.args_int_rmul_2 _ _) (int_rmul_tuple _ t l its.toArray n dd sl)
        ⟨ho, rfl, ⟨_, ho, rfl⟩, call_meets F.slot_tuple_mul ⟨_, ho, rfl⟩ F.entry_tuple_mul (F.args_tuple_mul_2 _ _) (tuple_mulE l its.toArray n dd sl _ t c0 c1 rfl) ⟨ho, ?_⟩⟩)
    refine ⟨.ref s.heap.objs.size, _, I.laid (t' := s.toks) (o := .tup []) (fun b ob q => Heap.get?_push_of_some _ q) (Nat.le_refl _) ?_, rfl, q2 rfl hx _ (I.hok.fresh (Nat.le_refl _))⟩
    exact ⟨by show 0 ≤ sizeLine; omega, _, .nil, IsTup.new _ _⟩
theorem op_bin (o : BOp) : OpR X (binaryOp (opA o)) (rBin X.K o) := by
  intro pins s σ H x y v u Q I rx ry h
  obtain ⟨w, st, ex, ey, ok, r1, r2, q⟩ := h
  have l6 := line6
  unfold binK at q
  split at q
  · cases (show Rep _ _ _ x _ from r1)
    cases (show Rep _ _ _ y _ from r2)
    exact op_add pins s σ H _ _ v u Q I rx ry ⟨_, _, rfl, rfl, q _ H Le.refl ok (.int _)⟩
  · cases (show Rep _ _ _ x _ from r1)
    cases (show Rep _ _ _ y _ from r2)
    exact op_sub pins s σ H _ _ v u Q I rx ry ⟨_, _, rfl, rfl, q _ H Le.refl ok (.int _)⟩
  · cases (show Rep _ _ _ x _ from r1)
    cases (show Rep _ _ _ y _ from r2)
    exact op_mulW pins s σ H _ _ v u Q I rx ry ⟨_, _, rfl, rfl, q.1, q.2 _ H Le.refl ok (.int _)⟩
  · cases (show Rep _ _ _ x _ from r1)
    cases (show Rep _ _ _ y _ from r2)
    exact op_fdivA pins s σ H _ _ v u Q I rx ry ⟨_, _, rfl, rfl, q.1, q.2 _ H Le.refl ok (.int _)⟩
  · cases (show Rep _ _ _ x _ from r1)
    cases (show Rep _ _ _ y _ from r2)
    exact op_fdivW pins s σ H _ _ v u Q I rx ry ⟨_, _, rfl, rfl, q.1, q.2 _ H Le.refl ok (.int _)⟩
  · cases (show Rep _ _ _ x _ from r1)
    cases (show Rep _ _ _ y _ from r2)
    exact op_mod pins s σ H _ _ v u Q I rx ry ⟨_, _, rfl, rfl, q.1, q.2 _ H Le.refl ok (.int _)⟩
  · cases (show Rep _ _ _ x _ from r1)
    cases (show Rep _ _ _ y _ from r2)
    exact op_pow pins s σ H _ _ v u Q I rx ry ⟨_, _, rfl, rfl, q.1, q.2 _ H Le.refl ok (.int _)⟩
  · cases (show Rep _ _ _ x _ from r1) with
    | tup f1 e1 =>
      cases (show Rep _ _ _ y _ from r2) with
      | tup f2 e2 =>
        refine op_catA pins s σ H _ _ v u Q I rx ry ⟨_, _, _, _, rfl, rfl, f1.sq, f2.sq, ?_, fun z => ?_, fun _ z => ?_, fun _ _ p n => ?_⟩
        · rw [e1.length, e2.length]; omega
        · subst z
          cases e1
          exact q.2 _ H Le.refl ok r2
        · subst z
          cases e2
          refine q.2 _ H Le.refl ok ?_
          rw [List.append_nil]
          exact r1
        · obtain ⟨a, b, c⟩ := new_tup n ok (e1.append e2)
          exact q.2 _ _ a b c
  · cases (show Rep _ _ _ x _ from r1) with
    | lst f1 m1 e1 =>
      cases (show Rep _ _ _ y _ from r2) with
      | lst f2 m2 e2 =>
        refine op_cat pins s σ H _ _ v u Q I rx ry ⟨_, _, _, _, rfl, rfl, f1, f2, ?_, fun p n => ?_⟩
        · rw [e1.length, e2.length]; omega
        · obtain ⟨a, b, c⟩ := new_lst0 n ok (e1.append e2)
          exact q.2 _ _ a b c
  · cases (show Rep _ _ _ x _ from r1)
    cases (show Rep _ _ _ y _ from r2)
    exact op_add_str pins s σ H _ _ v u Q I rx ry ⟨_, _, rfl, rfl, by omega, q.2 _ H Le.refl ok (.str _)⟩
  · cases (show Rep _ _ _ y _ from r2)
    cases (show Rep _ _ _ x _ from r1) with
    | lst f1 m1 e1 =>
      obtain ⟨⟨h0, h1, h2⟩, q⟩ := q
      refine op_rep pins s σ H _ _ v u Q I rx ry ⟨_, _, _, rfl, rfl, f1, by omega, by omega, ?_, fun p n => ?_⟩
      · rw [e1.length]; omega
      · obtain ⟨a, b, c⟩ := new_lst0 n ok (e1.rep _)
        exact q _ _ a b c
  · cases (show Rep _ _ _ x _ from r1)
    cases (show Rep _ _ _ y _ from r2)
    exact op_subB pins s σ H _ _ v u Q I rx ry ⟨_, _, rfl, rfl, q _ H Le.refl ok (.int _)⟩
  · obtain ⟨b, rfl, q⟩ := q
    cases (show Rep _ _ _ y _ from r2)
    cases (show Rep _ _ _ x _ from r1) with
    | tup f1 e1 =>
      refine op_mulT pins s σ H _ _ v u Q I rx ry ⟨_, _, b, rfl, rfl, f1.sq, fun z => ?_, fun z hx p n => ?_⟩
      · refine q _ H Le.refl ok ?_
        rcases z with rfl | rfl
        · exact r1
        · cases e1
          cases b <;> exact r1
      · subst z
        obtain ⟨a, b, c⟩ := new_tup n ok .nil
        exact q _ _ a b c
  · exact q.elim
def rAug (K : PySem.W.Frag) (o : BOp) : R2 := fun x y H Q => ∃ w st ex ey, WOk K H w st ∧ EVRep K H w st x ex ∧ EVRep K H w st y ey ∧ augK o ex ey (Post K H w st Q)
theorem op_aug (o : BOp) : OpR X (inplaceOp (opA o)) (rAug X.K o) := by
  intro pins s σ H x y v u Q I rx ry h
  obtain ⟨w, st, ex, ey, ok, r1, r2, qi, qp, q⟩ := h
  unfold binK at q
  split at q
  · cases (show Rep _ _ _ x _ from r1)
    cases (show Rep _ _ _ y _ from r2)
    exact iop_add pins s σ H _ _ v u Q I rx ry ⟨_, _, rfl, rfl, q _ H Le.refl ok (.int _)⟩
  · cases (show Rep _ _ _ x _ from r1)
    cases (show Rep _ _ _ y _ from r2)
    exact iop_sub pins s σ H _ _ v u Q I rx ry ⟨_, _, rfl, rfl, q _ H Le.refl ok (.int _)⟩
  · cases (show Rep _ _ _ x _ from r1)
    cases (show Rep _ _ _ y _ from r2)
    exact iop_mulW pins s σ H _ _ v u Q I rx ry ⟨_, _, rfl, rfl, q.1, q.2 _ H Le.refl ok (.int _)⟩
  · cases (show Rep _ _ _ x _ from r1)
    cases (show Rep _ _ _ y _ from r2)
    exact iop_fdivA pins s σ H _ _ v u Q I rx ry ⟨_, _, rfl, rfl, q.1, q.2 _ H Le.refl ok (.int _)⟩
  · cases (show Rep _ _ _ x _ from r1)
    cases (show Rep _ _ _ y _ from r2)
    exact iop_fdivW pins s σ H _ _ v u Q I rx ry ⟨_, _, rfl, rfl, q.1, q.2 _ H Le.refl ok (.int _)⟩
  · cases (show Rep _ _ _ x _ from r1)
    cases (show Rep _ _ _ y _ from r2)
    exact iop_mod pins s σ H _ _ v u Q I rx ry ⟨_, _, rfl, rfl, q.1, q.2 _ H Le.refl ok (.int _)⟩
  · exact absurd rfl qp
  all_goals first | exact qi.elim | exact q.elim
theorem eqv_strs {x : Str} : ∀ {ys : List D} {vs : List V} {K : PySem.W.Frag} {H : Hp} {M : Addr → Prop}, Reps K H M vs ys → ys.all isStr = true → vs.all flatV = true ∧ inV (.str x) vs = ys.any fun z => PyData.eqv z (.str x)
  | _, _, _, _, _, .nil, _ => ⟨rfl, rfl⟩
  | _, _, _, _, _, .cons r t, h => by
    rw [List.all_cons, Bool.and_eq_true] at h
    obtain ⟨h1, h2⟩ := eqv_strs t h.2
    cases r with
    | str z =>
      refine ⟨by rw [List.all_cons, h1]; rfl, ?_⟩
      unfold inV at h2 ⊢
      rw [List.any_cons, List.any_cons, h2]
      congr 1
    | _ => exact absurd h.1 Bool.false_ne_true
theorem inP_of {x : D} {ys : List D} (h : inP x ys = true) : ∃ a, x = .str a ∧ ys.all isStr = true := by
  unfold inP at h
  rw [Bool.and_eq_true] at h
  obtain ⟨h1, h2⟩ := h
  cases x with
  | str a => exact ⟨a, rfl, h2⟩
  | _ => exact absurd h1 Bool.false_ne_true
/-- x in a tuple, deep -/
theorem op_inTD (hu : X.A.units + 65 < cLine) : OpR X (compareOp .In) (fun x y H Q => ∃ d ds, Dp X.K H x d ∧ Dp X.K H y (.tuple ds) ∧ Shp d ∧ Shp (.tuple ds) ∧ Q (.bl (ds.any fun z => PyData.eqv z d)) H) := by
  intro pins s σ H x y v u Q I rx ry h
  obtain ⟨d, ds, hd, he, sd, se, q⟩ := h
  obtain ⟨as, r1⟩ := Dp.reads I d x v hd rx
  obtain ⟨bs, r2⟩ := Dp.reads I (.tuple ds) y u he ry
  have p1 := PyData.plain_of_canLay0 _ (SeqAt.canLay_of_shaped sd)
  have p2 := PyData.plain_of_canLay0 _ (SeqAt.canLay_of_shaped se)
  simp only [PyData.plain] at p2
  have dd := SeqAt.depth_of_shaped sd
  exact SeqAt.in_tuple_data r2 r1 p2 p1 (by omega) ⟨.bl _, H, I, rfl, q⟩
theorem op_notInTD (hu : X.A.units + 65 < cLine) : OpR X (compareOp .NotIn) (fun x y H Q => ∃ d ds, Dp X.K H x d ∧ Dp X.K H y (.tuple ds) ∧ Shp d ∧ Shp (.tuple ds) ∧ Q (.bl (!ds.any fun z => PyData.eqv z d)) H) := by
  intro pins s σ H x y v u Q I rx ry h
  obtain ⟨d, ds, hd, he, sd, se, q⟩ := h
  obtain ⟨as, r1⟩ := Dp.reads I d x v hd rx
  obtain ⟨bs, r2⟩ := Dp.reads I (.tuple ds) y u he ry
  have p1 := PyData.plain_of_canLay0 _ (SeqAt.canLay_of_shaped sd)
  have p2 := PyData.plain_of_canLay0 _ (SeqAt.canLay_of_shaped se)
  simp only [PyData.plain] at p2
  have dd := SeqAt.depth_of_shaped sd
  exact SeqAt.notIn_tuple_data r2 r1 p2 p1 (by omega) ⟨.bl _, H, I, rfl, q⟩
theorem flat_of {x y : D} (h : flatP x y = true) : (∃ a b, x = .int a ∧ y = .int b) ∨ ∃ a b, x = .str a ∧ y = .str b := by
  unfold flatP at h
  split at h
  · exact .inl ⟨_, _, rfl, rfl⟩
  · exact .inr ⟨_, _, rfl, rfl⟩
  · cases h
theorem op_cmp (xo : XOk X) (o : COp) : OpR X (compareOp (opC o)) (rCmp X.K o) := by
  intro pins s σ H x y v u Q I rx ry h
  obtain ⟨w, st, ex, ey, ok, r1, r2, q⟩ := h
  have hu := xo.hu
  unfold cmpK at q
  split at q
  · cases (show Rep _ _ _ x _ from r1)
    cases (show Rep _ _ _ y _ from r2)
    exact op_lt pins s σ H _ _ v u Q I rx ry ⟨_, _, rfl, rfl, q⟩
  · cases (show Rep _ _ _ x _ from r1)
    cases (show Rep _ _ _ y _ from r2)
    exact op_le pins s σ H _ _ v u Q I rx ry ⟨_, _, rfl, rfl, q⟩
  · cases (show Rep _ _ _ x _ from r1)
    cases (show Rep _ _ _ y _ from r2)
    exact op_gt pins s σ H _ _ v u Q I rx ry ⟨_, _, rfl, rfl, q⟩
  · cases (show Rep _ _ _ x _ from r1)
    cases (show Rep _ _ _ y _ from r2)
    exact op_ge pins s σ H _ _ v u Q I rx ry ⟨_, _, rfl, rfl, q⟩
  · rename_i dx dy
    obtain ⟨o, q⟩ := q
    rcases o with o | ⟨o1, o2⟩
    · rcases flat_of o with ⟨a, b, rfl, rfl⟩ | ⟨a, b, rfl, rfl⟩
      · cases (show Rep _ _ _ x _ from r1)
        cases (show Rep _ _ _ y _ from r2)
        refine op_eq pins s σ H _ _ v u Q I rx ry ⟨rfl, ?_⟩
        rw [show decide (V.int _ = V.int _) = _ from dec_int]
        rw [PyData.eqv] at q
        exact q
      · cases (show Rep _ _ _ x _ from r1)
        cases (show Rep _ _ _ y _ from r2)
        refine op_eq pins s σ H _ _ v u Q I rx ry ⟨rfl, ?_⟩
        rw [show decide (V.str _ = V.str _) = _ from dec_str]
        rw [PyData.eqv] at q
        exact q
    · exact op_eqD (by omega) pins s σ H _ _ v u Q I rx ry ⟨_, _, Rep.dp r1, Rep.dp r2, o1, o2, q⟩
  · rename_i dx dy
    obtain ⟨o, q⟩ := q
    rcases o with o | ⟨o1, o2⟩
    · rcases flat_of o with ⟨a, b, rfl, rfl⟩ | ⟨a, b, rfl, rfl⟩
      · cases (show Rep _ _ _ x _ from r1)
        cases (show Rep _ _ _ y _ from r2)
        refine op_ne pins s σ H _ _ v u Q I rx ry ⟨rfl, ?_⟩
        rw [show decide (V.int _ = V.int _) = _ from dec_int]
        rw [PyData.eqv] at q
        exact q
      · cases (show Rep _ _ _ x _ from r1)
        cases (show Rep _ _ _ y _ from r2)
        refine op_ne pins s σ H _ _ v u Q I rx ry ⟨rfl, ?_⟩
        rw [show decide (V.str _ = V.str _) = _ from dec_str]
        rw [PyData.eqv] at q
        exact q
    · exact op_neD (by omega) pins s σ H _ _ v u Q I rx ry ⟨_, _, Rep.dp r1, Rep.dp r2, o1, o2, q⟩
  · rename_i dx ys
    obtain ⟨o, q⟩ := q
    rcases o with o | ⟨o1, o2⟩
    · obtain ⟨a, rfl, o⟩ := inP_of o
      cases (show Rep _ _ _ x _ from r1)
      cases (show Rep _ _ _ y _ from r2) with
      | tup f2 e2 =>
        obtain ⟨h1, h2⟩ := eqv_strs e2 o
        refine op_in_seq pins s σ H _ _ v u Q I rx ry ⟨_, _, rfl, .inr f2.sq, rfl, h1, ?_⟩
        rw [h2]
        exact q
    · exact op_inTD (by omega) pins s σ H _ _ v u Q I rx ry ⟨_, _, Rep.dp r1, Rep.dp r2, o1, o2, q⟩
  · rename_i dx ys
    obtain ⟨o, q⟩ := q
    rcases o with o | ⟨o1, o2⟩
    · obtain ⟨a, rfl, o⟩ := inP_of o
      cases (show Rep _ _ _ x _ from r1)
      cases (show Rep _ _ _ y _ from r2) with
      | tup f2 e2 =>
        obtain ⟨h1, h2⟩ := eqv_strs e2 o
        refine op_notIn_seq pins s σ H _ _ v u Q I rx ry ⟨_, _, rfl, .inr f2.sq, rfl, h1, ?_⟩
        rw [h2]
        exact q
    · exact op_notInTD (by omega) pins s σ H _ _ v u Q I rx ry ⟨_, _, Rep.dp r1, Rep.dp r2, o1, o2, q⟩
  · exact op_inD (by omega) pins s σ H _ _ v u Q I rx ry ⟨_, _, Rep.dp r1, Rep.dp r2, q.1, q.2.1, q.2.2⟩
  · exact op_notInD (by omega) pins s σ H _ _ v u Q I rx ry ⟨_, _, Rep.dp r1, Rep.dp r2, q.1, q.2.1, q.2.2⟩
  · exact q.elim
end
end VI

/-! VI5: repr of data whose ints have fewer than 4,300 digits. -/
namespace VI
open PySem PySem.Spec PyProof.Rows
open PySem.Builtin PySem.Builtin.Str PySem.Builtin.Int
section
variable {prog : Program} {w : World} {A : Around} {E : Value → Shared → Prop} {s : Shared} {a : Int} {t : Tok} {h₀ : Heap}
theorem call_int_repr_lt {Q : Value → Shared → Prop} (hn : s.heap.NoDigits) (hlt : a.natAbs < 10 ^ 4300) (h1 : Q (.str (toString a) s.toks) { s with toks := s.toks + 1 }) :
    wpAny (model prog w) A (call (.builtin "int.__repr__") [.int a t]) Q E s := by
  refine wpAny_call_entry F.slot_int_repr (typeIs_int s a t) F.entry_int_repr ?_ (F.args_int_repr_1 _)
  unfold Builtin.«int.__repr__»
  show wpAny _ _ (do let r ← Builtin.overDigitLimit? a; _) _ _ s
  refine wpAny_bind (overDigitLimit_any hn (fun hlt => ?_) (fun hge => absurd hlt (Nat.not_lt.mpr hge)))
  exact wpAny_bind (wpAny_mkStr (wpAny_pure ⟨_, rfl, h1⟩) (int_text_fits10 hlt))
theorem pyReprObj_int_lt {Q : Value → Shared → Prop} (hn : s.heap.NoDigits) (hlt : a.natAbs < 10 ^ 4300) (h : Q (.str (toString a) s.toks) { s with toks := s.toks + 1 }) : wpAny (model prog w) A (pyReprObj (.int a t)) Q E s := by
  have hv : [Value.int a t].any Value.onHeap = false := rfl
  unfold pyReprObj
  simp only [cRoomFor, hv, Bool.false_eq_true, if_false, pure_bind]
  refine wpAny_bind (wpAny_specialOf (name := Str.ofString "__repr__") (typeIs_int s a t) F.slot_int_repr.lookup ?_)
  refine wpAny_bind (m := callSpecialIfBound? (.int a t) (Str.ofString "__repr__")) (wpAny_callSpecialIfBound?_slot (name := Str.ofString "__repr__") (typeIs_int s a t) F.slot_int_repr (call_int_repr_lt hn hlt ?_))
  exact wpAny_bind (wpAny_isInstance (T := "str") (b := true) rfl isSubtype_str_str (wpAny_pure h))
theorem pyRepr_int_lt {Q : Str → Shared → Prop} (hn : s.heap.NoDigits) (hlt : a.natAbs < 10 ^ 4300) (h : Q (toString a) { s with toks := s.toks + 1 }) : wpAny (model prog w) A (pyRepr (.int a t)) Q E s := by
  unfold pyRepr
  exact wpAny_bind (pyReprObj_int_lt hn hlt (wpAny_pure h))
theorem reprK_int (hn : h₀.NoDigits) (hlt : a.natAbs < 10 ^ 4300) (as : List Addr) (d : Nat) : ReprK prog w as h₀ d (.int a t) (toString a) := by
  intro base hb A g E s Q hg hcl hu hk hQ
  rw [pyReprUnder_leaf (by omega) (fun _ z => by cases z)]
  exact pyRepr_int_lt (hn.keeps hk) hlt (hQ s.heap _ fun _ _ e => e)
mutual
theorem reprK_of : ∀ {v : Value} {d : PyData} {as : List Addr}, h₀.NoDigits → Reads h₀ v d as → showB d = true → d.shown.length ≤ sizeLine → ∃ bs, ReadAtMost h₀ d.depth bs ∧ ReprK prog w bs h₀ d.depth v d.shown
  | _, _, _, _, .none, _, _ => ⟨[], (fun _ h => nomatch h), by simp only [PyData.shown]; exact .of_is ReprIs.none _ _ _⟩
  | _, _, _, _, .bool b, _, _ => ⟨[], (fun _ h => nomatch h), by simp only [PyData.shown]; exact .of_is (ReprIs.bool b) _ _ _⟩
  | _, _, _, hn, .int i t, hs, _ => ⟨[], (fun _ h => nomatch h), by
    simp only [PyData.shown]
    simp only [showB] at hs
    exact reprK_int hn (of_decide_eq_true hs) _ _⟩
  | _, _, _, _, .str x t, _, hz => ⟨[], (fun _ h => nomatch h), by simp only [PyData.shown]; exact .of_is (ReprIs.str x t (by simpa only [PyData.shown] using hz)) _ _ _⟩
  | _, _, _, hn, .list (a := a) (vs := vs) (xs := xs) h1 h2 h3 h4, hs, hz => by
    have hz' : (listText (PyData.shownAll xs)).length ≤ sizeLine := by simpa only [PyData.shown] using hz
    obtain ⟨bs, hb, hk⟩ := reprKs_of hn h4 (by simpa only [showB] using hs) (fun t ht => Nat.le_trans (listText_mem_le ht) hz')
    have r : Reads h₀ (.ref a) (.list xs) _ := .list h1 h2 h3 h4
    have hna : a ∉ bs := not_mem_of_deeper r (by simp only [PyData.depth]; omega) hb
    refine ⟨a :: bs, ReadAtMost.cons r (by simp only [PyData.depth]; omega) hb, ?_⟩
    simp only [PyData.depth, PyData.shown]
    obtain ⟨l⟩ := vs
    cases l with
    | nil =>
      have h4' : ReadsAll h₀ [] xs _ := h4
      cases h4'
      simp only [PyData.shownAll, listText_nil]
      exact ReprK.listEmpty h1 h2 h3
    | cons x l => exact ReprK.list h1 h2 h3 hna (by simpa using hk.length_eq) (fun i y e => hk.item i y (by simpa using e))
  | _, _, _, hn, .tuple (a := a) (xs := xs) h1 h2 h3 h4, hs, hz => by
    have hz' : (tupleText (PyData.shownAll xs)).length ≤ sizeLine := by simpa only [PyData.shown] using hz
    obtain ⟨bs, hb, hk⟩ := reprKs_of hn h4 (by simpa only [showB] using hs) (fun t ht => Nat.le_trans (tupleText_mem_le ht) hz')
    have r : Reads h₀ (.ref a) (.tuple xs) _ := .tuple h1 h2 h3 h4
    have hna : a ∉ bs := not_mem_of_deeper r (by simp only [PyData.depth]; omega) hb
    refine ⟨a :: bs, ReadAtMost.cons r (by simp only [PyData.depth]; omega) hb, ?_⟩
    simp only [PyData.depth, PyData.shown]
    exact ReprK.tuple h1 h2 h3 hna hk
  | _, _, _, _, .dict _ _ _ _ _, hs, _ => by simp [showB] at hs
theorem reprKs_of : ∀ {vs : List Value} {ds : List PyData} {as : List Addr}, h₀.NoDigits → ReadsAll h₀ vs ds as → showBs ds = true → (∀ t ∈ PyData.shownAll ds, t.length ≤ sizeLine) →
    ∃ bs, ReadAtMost h₀ (PyData.depthAll ds) bs ∧ ReprAllK prog w bs h₀ (PyData.depthAll ds) vs (PyData.shownAll ds)
  | _, _, _, _, .nil, _, _ => ⟨[], (fun _ h => nomatch h), by simp only [PyData.shownAll]; exact .nil⟩
  | _, _, _, hn, .cons (d := d) (ds := ds) r rs, hs, hz => by
    have hs' : showB d = true ∧ showBs ds = true := by simpa [showBs] using hs
    obtain ⟨b1, hb1, k1⟩ := reprK_of hn r hs'.1 (hz _ (by simp only [PyData.shownAll]; exact List.mem_cons_self ..))
    obtain ⟨b2, hb2, k2⟩ := reprKs_of hn rs hs'.2 (fun t ht => hz t (by simp only [PyData.shownAll]; exact List.mem_cons_of_mem _ ht))
    refine ⟨b1 ++ b2, ?_, ?_⟩
    · intro b hm
      simp only [PyData.depthAll]
      rcases List.mem_append.mp hm with hm | hm
      · obtain ⟨d', as', r', hd'⟩ := hb1 b hm
        exact ⟨d', as', r', Nat.le_trans hd' (Nat.le_max_left _ _)⟩
      · obtain ⟨d', as', r', hd'⟩ := hb2 b hm
        exact ⟨d', as', r', Nat.le_trans hd' (Nat.le_max_right _ _)⟩
    · simp only [PyData.depthAll, PyData.shownAll]
      exact .cons ((k1.more fun b hb => List.mem_append_left _ hb).level_le (Nat.le_max_left _ _)) (k2.more_le (fun b hb => List.mem_append_right _ hb) (Nat.le_max_right _ _))
end
end
section
variable {prog : Program} {w : World} {A : Around} {E : Value → Shared → Prop} {s : Shared} {v : Value}
theorem call_repr_slot {T id : String} {Q : Value → Shared → Prop} (hT : s.TypeIs v T) (slot : SlotG T "__repr__" id) (hu : A.units + 1 < cLine)
    (h : wpAny (model prog w) A.in1 (call (.builtin id) [v]) (fun r s' => (∃ x u, r = .str x u) ∧ Q r s') E s) : wpAny (model prog w) A (call (.builtin "repr") [v]) Q E s := by
  refine Calls.call_function_entry F.kind_repr F.plain_repr F.entry_repr (F.args_repr1 _) ?_
  unfold Builtin.«repr»
  refine wpAny_bind (m := oneArg "repr" _) (wpAny_pure ?_)
  refine wpAny_bind (wpAny_cRoomFor hu ?_)
  refine wpAny_bind (wpAny_specialOf (name := Str.ofString "__repr__") hT slot.lookup ?_)
  refine wpAny_bind (m := callSpecialIfBound? v (Str.ofString "__repr__")) (wpAny_callSpecialIfBound?_slotG (name := Str.ofString "__repr__") hT slot (wpAny_mono h (fun r s' hq => ?_) fun _ _ z => z))
  obtain ⟨⟨x, u, rfl⟩, hq⟩ := hq
  refine wpAny_bind (wpAny_isInstance (T := "str") (b := true) rfl isSubtype_str_str ?_)
  exact wpAny_pure ⟨_, rfl, hq⟩
theorem call_repr_of {d : PyData} {as : List Addr} (hn : s.heap.NoDigits) (r : Reads s.heap v d as) (hs : showB d = true) (hz : d.shown.length ≤ sizeLine) {Q : Value → Shared → Prop} (hg : A.guards = some []) (hu : A.units + 65 < cLine) (hd : d.depth ≤ 64)
    (hQ : ∀ h' u tk, (∀ b o, s.heap.get? b = some o → h'.get? b = some o) → Q (.str d.shown u) { s with heap := h', toks := tk }) : wpAny (model prog w) A (call (.builtin "repr") [v]) Q E s := by
  cases r with
  | none =>
    simp only [PyData.shown] at hQ
    exact PySem.P.repr_of_none (hQ s.heap _ _ fun _ _ e => e)
  | bool b =>
    simp only [PyData.shown] at hQ
    exact PySem.P.repr_of_bool (hQ s.heap _ _ fun _ _ e => e)
  | int i t =>
    simp only [PyData.shown] at hQ
    simp only [showB] at hs
    refine call_repr_slot (typeIs_int s i t) F.slot_int_repr.toG (by omega) ?_
    exact call_int_repr_lt hn (of_decide_eq_true hs) ⟨⟨_, _, rfl⟩, hQ s.heap _ _ fun _ _ e => e⟩
  | str x t =>
    simp only [PyData.shown] at hQ hz
    exact PySem.P.repr_of_str (hQ s.heap _ _ fun _ _ e => e) hz
  | @list a o vs n xs bs h1 h2 h3 h4 =>
    have hz' : (listText (PyData.shownAll xs)).length ≤ sizeLine := by simpa only [PyData.shown] using hz
    obtain ⟨bs, hb, hk⟩ := reprKs_of (prog := prog) (w := w) hn h4 (by simpa only [showB] using hs) (fun t ht => Nat.le_trans (listText_mem_le ht) hz')
    have r : Reads s.heap (.ref a) (.list xs) _ := .list h1 h2 h3 h4
    have hna : a ∉ bs := not_mem_of_deeper r (by simp only [PyData.depth]; omega) hb
    simp only [PyData.depth] at hd
    simp only [PyData.shown] at hQ
    refine call_repr_slot ⟨_, h1, h2⟩ F.slot_list_repr.toG (by omega) ?_
    obtain ⟨l⟩ := vs
    cases l with
    | nil =>
      have h4' : ReadsAll s.heap [] xs _ := h4
      cases h4'
      simp only [PyData.shownAll, listText_nil] at hQ
      exact call_list_repr_empty ⟨_, h1, h2⟩ h1 h3 ⟨⟨_, _, rfl⟩, hQ s.heap _ _ fun _ _ e => e⟩
    | cons x l =>
      exact call_list_reprK h1 h2 h3 hna (by simpa using hk.length_eq) (fun i y e => hk.item i y (by simpa using e)) hg (fun b _ => Clear.nil b) (by show A.units + 1 + _ < _; omega) (fun _ _ e => e) (fun h' u tk hk' => ⟨⟨_, _, rfl⟩, hQ h' u tk hk'⟩) hz'
  | @tuple a o vs n xs bs h1 h2 h3 h4 =>
    have hz' : (tupleText (PyData.shownAll xs)).length ≤ sizeLine := by simpa only [PyData.shown] using hz
    obtain ⟨bs, hb, hk⟩ := reprKs_of (prog := prog) (w := w) hn h4 (by simpa only [showB] using hs) (fun t ht => Nat.le_trans (tupleText_mem_le ht) hz')
    have r : Reads s.heap (.ref a) (.tuple xs) _ := .tuple h1 h2 h3 h4
    have hna : a ∉ bs := not_mem_of_deeper r (by simp only [PyData.depth]; omega) hb
    simp only [PyData.depth] at hd
    simp only [PyData.shown] at hQ
    refine call_repr_slot ⟨_, h1, h2⟩ F.slot_tuple_repr (by omega) ?_
    exact call_tuple_reprK h1 h2 h3 hna hk hg (fun b _ => Clear.nil b) (by show A.units + 1 + _ < _; omega) (fun _ _ e => e) (fun h' u tk hk' => ⟨⟨_, _, rfl⟩, hQ h' u tk hk'⟩) hz'
  | dict => simp [showB] at hs
end
end VI
namespace VI
open PySem PySem.Spec PyProof.Rows L2
theorem call_reprD {X : Cx} (xo : XOk X) : CallR X (.builtin "repr") (fun vs H Q => ∃ v d, vs = [v] ∧ Dp X.K H v d ∧ RepOk d ∧ Q (.str d.shown) H) := by
  intro pins s σ H xs us Q I r h
  obtain ⟨v, d, rfl, hd, ⟨h1, h2, h3⟩, q⟩ := h
  obtain ⟨u, rfl, ru⟩ := vals1 r
  obtain ⟨as, rd⟩ := Dp.reads I d v u hd ru
  refine call_repr_of (xo.nodig.keeps I.bk) rd h2 (by rw [sizeLine_eq]; omega) xo.gd xo.hu (SeqAt.depth_of_shaped h1) fun h' t tk k => ⟨.str d.shown, H, I.kept k, ⟨_, rfl⟩, q⟩
end VI

/-! VI6: expressions: from the meaning to the readings. -/
namespace VI
open PySem PySem.Spec PyProof.Rows L2
section
variable {K : PySem.W.Frag} {H H1 : Hp} {w w1 : Wd} {st st1 : Sto}
theorem seq_rep (ok : WOk K H w st) {v : V} {ev : EV} (r : EVRep K H w st v ev) {k : Bool → List D → Prop} (h : seqE ev st k) :
    ∃ b ds a xs, v = .ref a ∧ (b = true → SqL K H a xs) ∧ (b = false → SqT K H a xs ∧ ev = .d (.tuple ds)) ∧ Reps K H (w.M st) xs ds ∧ k b ds := by
  unfold seqE at h
  split at h
  · cases (show Rep _ _ _ v _ from r) with
    | lst f m e => exact ⟨true, _, _, _, rfl, fun _ => SqL.of f, (fun z => nomatch z), e, h⟩
  · cases (show Rep _ _ _ v _ from r) with
    | tup f e => exact ⟨false, _, _, _, rfl, (fun z => nomatch z), fun _ => ⟨f.sq, rfl⟩, e, h⟩
  · split at h
    · rename_i e
      obtain ⟨a, q, ha⟩ := r
      obtain ⟨a', vs, h1, h2, h3⟩ := ok.l _ _ e
      rw [ha] at h1
      cases h1
      exact ⟨true, _, _, _, q, fun _ => SqL.of h2, (fun z => nomatch z), h3, h⟩
    · exact h.elim
  · split at h
    · rename_i e
      obtain ⟨a, q, ha⟩ := r
      obtain ⟨a', vs, h1, h2, h3⟩ := ok.g _ _ e
      rw [ha] at h1
      cases h1
      exact ⟨true, _, _, _, q, fun _ => SqL.of h2, (fun z => nomatch z), h3, h⟩
    · exact h.elim
  · obtain ⟨a, xs, q, f, e⟩ := r
    exact ⟨true, _, _, _, q, fun _ => f.sq, (fun z => nomatch z), e, h⟩
  · exact h.elim
theorem isEmpty_reps {M : Addr → Prop} {xs : List V} {ds : List D} (r : Reps K H M xs ds) : (!ds.isEmpty) = !xs.isEmpty := by
  cases r <;> rfl
theorem tru_rep (ok : WOk K H w st) {v : V} {ev : EV} (r : EVRep K H w st v ev) {k : Bool → Prop} (h : truE ev st k) : ∃ b, TruV K v H b ∧ k b := by
  unfold truE at h
  split at h
  · cases (show Rep _ _ _ v _ from r)
    exact ⟨_, rfl, h⟩
  · cases (show Rep _ _ _ v _ from r)
    exact ⟨_, rfl, h⟩
  · cases (show Rep _ _ _ v _ from r)
    exact ⟨_, rfl, h⟩
  · rename_i x
    cases (show Rep _ _ _ v _ from r)
    refine ⟨_, ⟨h.1, rfl⟩, ?_⟩
    have e : (((x.length : Nat) : Int) != 0) = (x.length != 0) := by
      rw [Bool.eq_iff_iff]
      simp only [bne_iff_ne, ne_eq]
      omega
    rw [e]
    exact h.2
  · obtain ⟨b, ds, a, xs, rfl, h1, h2, h3, h4⟩ := seq_rep ok r h
    rw [isEmpty_reps h3] at h4
    cases b with
    | true => exact ⟨_, .inl ⟨xs, h1 rfl, rfl⟩, h4⟩
    | false => exact ⟨_, .inr (.inl ⟨xs, (h2 rfl).1, rfl⟩), h4⟩
theorem allD_rep : ∀ {vs : List V} {evs : List EV} {k : List D → Prop}, EVReps K H w st vs evs → allD evs k → ∃ ds, Reps K H (w.M st) vs ds ∧ k ds
  | _, _, _, .nil, h => ⟨[], .nil, h⟩
  | _, _, _, .cons (d := .d x) r t, h => by
    obtain ⟨ds, q, h⟩ := allD_rep t h
    exact ⟨x :: ds, .cons r q, h⟩
  | _, _, _, .cons (d := .lm _) _ _, h => h.elim
  | _, _, _, .cons (d := .gm _) _ _, h => h.elim
  | _, _, _, .cons (d := .sc _) _ _, h => h.elim
theorem dE_rep {v : V} {ev : EV} (r : EVRep K H w st v ev) {k : D → Prop} (h : dE ev k) : ∃ d, Rep K H (w.M st) v d ∧ k d := by
  unfold dE at h
  split at h
  · exact ⟨_, r, h⟩
  · exact h.elim
theorem bools_rep {M : Addr → Prop} : ∀ {xs : List V} {ds : List D} {k : List Bool → Prop}, Reps K H M xs ds → boolsE ds k → ∃ bs, xs = bs.map V.bl ∧ k bs
  | _, _, _, .nil, h => ⟨[], rfl, h⟩
  | _, _, _, .cons (d := .bool b) r t, h => by
    cases r
    obtain ⟨bs, e, h⟩ := bools_rep t h
    exact ⟨b :: bs, by rw [e]; rfl, h⟩
  | _, _, _, .cons (d := .none) _ _, h => h.elim
  | _, _, _, .cons (d := .int _) _ _, h => h.elim
  | _, _, _, .cons (d := .str _) _ _, h => h.elim
  | _, _, _, .cons (d := .list _) _ _, h => h.elim
  | _, _, _, .cons (d := .tuple _) _ _, h => h.elim
  | _, _, _, .cons (d := .dict _) _ _, h => h.elim
theorem evreps1 {vs : List V} {e : EV} (r : EVReps K H w st vs [e]) : ∃ v, vs = [v] ∧ EVRep K H w st v e := by
  cases r with
  | cons a b => cases b; exact ⟨_, rfl, a⟩
theorem evreps2 {vs : List V} {e f : EV} (r : EVReps K H w st vs [e, f]) : ∃ v u, vs = [v, u] ∧ EVRep K H w st v e ∧ EVRep K H w st u f := by
  cases r with
  | cons a b => cases b with
    | cons c d => cases d; exact ⟨_, _, rfl, a, c⟩
theorem evreps3 {vs : List V} {e f g : EV} (r : EVReps K H w st vs [e, f, g]) : ∃ v u x, vs = [v, u, x] ∧ EVRep K H w st v e ∧ EVRep K H w st u f ∧ EVRep K H w st x g := by
  cases r with
  | cons a b => cases b with
    | cons c d => cases d with
      | cons i j => cases j; exact ⟨_, _, _, rfl, a, c, i⟩
theorem valsT3 {x y z : V} {us : List Value} (r : Vals [x, y, z] us) : ∃ u w' t', us = [u, w', t'] ∧ RelV x u ∧ RelV y w' ∧ RelV z t' := by
  cases r with
  | cons a r => cases r with
    | cons b r => cases r with
      | cons c r => cases r; exact ⟨_, _, _, rfl, a, b, c⟩
theorem reps_ints : ∀ {ns : List Int} {vs : List V}, Reps K H M vs (ns.map PyData.int) → vs = ns.map V.int
  | [], _, .nil => rfl
  | t :: ts, _, .cons (.int _) r => by rw [reps_ints r]; rfl
end
/-! ### built-ins -/
def bltV : Blt → Value
  | .str => .type "str" | .len => .builtin "len" | .abs => .builtin "abs" | .int => .type "int" | .min2 => .builtin "min" | .max2 => .builtin "max" | .gcd => .builtin "math.gcd" | .isqrt => .builtin "math.isqrt"
  | .all => .builtin "all" | .any => .builtin "any" | .tuple => .type "tuple" | .list => .type "list" | .repr => .builtin "repr"
  | .min3 => .builtin "min" | .max3 => .builtin "max" | .maxL => .builtin "max" | .minL => .builtin "min"
def rBlt (K : PySem.W.Frag) (b : Blt) (kd : Nat) : List V → Hp → VK → Prop := fun vs H Q => ∃ w st evs, WOk K H w st ∧ EVReps K H w st vs evs ∧ bltK b kd evs st (PostW K H w st Q)
theorem abs_eq (i : Int) : (if i < 0 then -i else i) = ((i.natAbs : Nat) : Int) := by split <;> omega
theorem max_eq (i j : Int) : (if j > i then j else i) = max i j := by
  rw [Int.max_def]
  split <;> split <;> omega
theorem min_eq (i j : Int) : (if j < i then j else i) = min i j := by
  rw [Int.min_def]
  split <;> split <;> omega
section
variable {X : Cx}
def rIsqrt : List V → Hp → VK → Prop := fun vs H Q => ∃ a : Int, vs = [.int a] ∧ 0 ≤ a ∧ a.natAbs.log2 < 13000 ∧ ∀ k : Int, 0 ≤ k → k * k ≤ a → a < (k + 1) * (k + 1) → Q (.int k) H
theorem cr_isqrt : CallR X (.builtin "math.isqrt") rIsqrt := by
  intro pins s σ H vs us Q I r h
  obtain ⟨a, rfl, h0, hl, q⟩ := h
  obtain ⟨u, rfl, ⟨t, rfl⟩⟩ := Vals.one r
  have e : a.toNat = a.natAbs := by omega
  have hs := PySem.Float64.isqrt_spec a.toNat
  refine PySem.call_function_meets PySem.W.MGF.kind_isqrt PySem.W.MGF.plain_isqrt PySem.W.MGF.entry_isqrt (PySem.W.MGF.args_isqrt _) (PySem.W.mg_run_isqrt a t (by omega) (by rw [e]; omega) (by rw [e]; omega)).meets ⟨.int _, H, I.tok _, ⟨_, rfl⟩, q _ (Int.natCast_nonneg _) ?_ ?_⟩
  · have := hs.1
    have z : ((PySem.Float64.isqrt a.toNat * PySem.Float64.isqrt a.toNat : Nat) : Int) ≤ (a.toNat : Int) := by exact_mod_cast this
    rw [Int.natCast_mul] at z
    omega
  · have := hs.2
    have z : (a.toNat : Int) < (((PySem.Float64.isqrt a.toNat + 1) * (PySem.Float64.isqrt a.toNat + 1) : Nat) : Int) := by exact_mod_cast this
    rw [Int.natCast_mul, Int.natCast_add] at z
    have z : (a.toNat : Int) < ((PySem.Float64.isqrt a.toNat : Nat) + 1 : Int) * ((PySem.Float64.isqrt a.toNat : Nat) + 1 : Int) := z
    omega
theorem call_blt (xo : XOk X) (b : Blt) (kd : Nat) : CallR X (bltV b) (rBlt X.K b kd) := by
  intro pins s σ H xs us Q I r h
  obtain ⟨w, st, evs, ok, er, q⟩ := h
  unfold bltK at q
  split at q
  · obtain ⟨v, rfl, r1⟩ := evreps1 er
    cases (show Rep _ _ _ v _ from r1)
    exact call_str_int pins s σ H _ us Q I r ⟨_, rfl, q.1, q.2 _ H w Le.refl ok (.str _)⟩
  · obtain ⟨v, rfl, r1⟩ := evreps1 er
    cases (show Rep _ _ _ v _ from r1)
    exact SkE.call_str_str pins s σ H _ us Q I r ⟨_, rfl, q _ H w Le.refl ok (.str _)⟩
  · obtain ⟨v, rfl, r1⟩ := evreps1 er
    cases (show Rep _ _ _ v _ from r1)
    exact call_len pins s σ H _ us Q I r ⟨_, _, rfl, ⟨q.1, rfl⟩, q.2 _ H w Le.refl ok (.int _)⟩
  · obtain ⟨v, rfl, r1⟩ := evreps1 er
    obtain ⟨b, ds, a, ys, rfl, h1, h2, h3, h4⟩ := seq_rep ok r1 q
    have e := h3.length
    cases b with
    | true => exact call_len pins s σ H _ us Q I r ⟨_, _, rfl, .inl ⟨_, h1 rfl, rfl⟩, h4 _ H w Le.refl ok (by rw [e]; exact Rep.int _)⟩
    | false => exact call_len pins s σ H _ us Q I r ⟨_, _, rfl,   .inr ⟨_, (h2 rfl).1, rfl⟩, h4 _ H w Le.refl ok (by rw [e]; exact Rep.int _)⟩
  · obtain ⟨v, rfl, r1⟩ := evreps1 er
    cases (show Rep _ _ _ v _ from r1)
    exact call_abs pins s σ H _ us Q I r ⟨_, rfl, q _ H w Le.refl ok (by rw [abs_eq]; exact Rep.int _)⟩
  · obtain ⟨v, rfl, r1⟩ := evreps1 er
    cases (show Rep _ _ _ v _ from r1)
    exact call_int1 pins s σ H _ us Q I r (.inl ⟨_, rfl, q _ H w Le.refl ok (Rep.int _)⟩)
  · obtain ⟨v, rfl, r1⟩ := evreps1 er
    cases (show Rep _ _ _ v _ from r1)
    exact call_int1 pins s σ H _ us Q I r (.inr ⟨_, rfl, q _ H w Le.refl ok (Rep.int _)⟩)
  · obtain ⟨v, u, rfl, r1, r2⟩ := evreps2 er
    cases (show Rep _ _ _ v _ from r1)
    cases (show Rep _ _ _ u _ from r2)
    exact call_min2 xo.calm pins s σ H _ us Q I r ⟨_, _, rfl, q _ H w Le.refl ok (by rw [min_eq]; exact Rep.int _)⟩
  · obtain ⟨v, u, rfl, r1, r2⟩ := evreps2 er
    cases (show Rep _ _ _ v _ from r1)
    cases (show Rep _ _ _ u _ from r2)
    exact call_max2 xo.calm pins s σ H _ us Q I r ⟨_, _, rfl, q _ H w Le.refl ok (by rw [max_eq]; exact Rep.int _)⟩
  · obtain ⟨v, u, rfl, r1, r2⟩ := evreps2 er
    cases (show Rep _ _ _ v _ from r1)
    cases (show Rep _ _ _ u _ from r2)
    exact cr_gcd pins s σ H _ us Q I r ⟨_, _, rfl, q _ H w Le.refl ok (Rep.int _)⟩
  · obtain ⟨v, rfl, r1⟩ := evreps1 er
    cases (show Rep _ _ _ v _ from r1)
    exact cr_isqrt pins s σ H _ us Q I r ⟨_, rfl, q.1.1, q.1.2, fun k a b c => q.2 k a b c _ H w Le.refl ok (Rep.int _)⟩
  · obtain ⟨v, rfl, r1⟩ := evreps1 er
    obtain ⟨b, ds, a, ys, rfl, h1, h2, h3, hb, h4⟩ := seq_rep ok r1 q
    obtain ⟨bs, e, h4⟩ := bools_rep h3 h4
    subst e
    exact cr_all xo.calm pins s σ H _ us Q I r ⟨_, _, rfl, h1 hb, h4 _ H w Le.refl ok (Rep.bl _)⟩
  · obtain ⟨v, rfl, r1⟩ := evreps1 er
    obtain ⟨b, ds, a, ys, rfl, h1, h2, h3, hb, h4⟩ := seq_rep ok r1 q
    obtain ⟨bs, e, h4⟩ := bools_rep h3 h4
    subst e
    exact cr_any xo.calm pins s σ H _ us Q I r ⟨_, _, rfl, h1 hb, h4 _ H w Le.refl ok (Rep.bl _)⟩
  · obtain ⟨v, rfl, r1⟩ := evreps1 er
    obtain ⟨b, ds, a, ys, rfl, h1, h2, h3, h4⟩ := seq_rep ok r1 q
    cases b with
    | true =>
      refine call_tuple_of pins s σ H _ us Q I r ⟨_, _, rfl, .inl ⟨h1 rfl, fun l n => ?_⟩⟩
      obtain ⟨x, y, z⟩ := new_tup n ok h3
      exact h4 _ _ w x y z
    | false =>
      obtain ⟨g1, g2⟩ := h2 rfl
      subst g2
      exact call_tuple_of pins s σ H _ us Q I r ⟨_, _, rfl, .inr ⟨g1, h4 _ H w Le.refl ok r1⟩⟩
  · obtain ⟨v, rfl, r1⟩ := evreps1 er
    obtain ⟨b, ds, a, ys, rfl, h1, h2, h3, h4⟩ := seq_rep ok r1 q
    have hs : SqL X.K H a ys ∨ SqT X.K H a ys := by
      cases b with
      | true => exact .inl (h1 rfl)
      | false => exact .inr (h2 rfl).1
    refine call_list_of pins s σ H _ us Q I r ⟨_, _, rfl, hs, fun l n => ?_⟩
    obtain ⟨ev, w', st', x, y, z, h⟩ := new_lst n ok h3 h4
    exact h _ _ w' x y z
  · obtain ⟨v, rfl, r1⟩ := evreps1 er
    exact call_reprD xo pins s σ H _ us Q I r ⟨_, _, rfl, Rep.dp r1, q.1, q.2 _ H w Le.refl ok (Rep.str _)⟩
  · obtain ⟨v, u, x, rfl, r1, r2, r3⟩ := evreps3 er
    cases (show Rep _ _ _ v _ from r1)
    cases (show Rep _ _ _ u _ from r2)
    cases (show Rep _ _ _ x _ from r3)
    rename_i i j m
    obtain ⟨u1, u2, u3, rfl, ⟨t1, rfl⟩, ⟨t2, rfl⟩, ⟨t3, rfl⟩⟩ := valsT3 r
    refine min_three_ints (I.ok.hd xo.calm) fun h' tk k => ?_
    have e : ∃ t, (if j < i then (if m < j then Value.int m t3 else .int j t2) else (if m < i then Value.int m t3 else .int i t1)) = .int (min i (min j m)) t := by
      split <;> split
      · exact ⟨t3, by congr 1; omega⟩
      · exact ⟨t2, by congr 1; omega⟩
      · exact ⟨t3, by congr 1; omega⟩
      · exact ⟨t1, by congr 1; omega⟩
    obtain ⟨t, e⟩ := e
    rw [e]
    exact ⟨.int _, H, I.kept k, ⟨t, rfl⟩, q _ H w Le.refl ok (Rep.int _)⟩
  · obtain ⟨v, u, x, rfl, r1, r2, r3⟩ := evreps3 er
    cases (show Rep _ _ _ v _ from r1)
    cases (show Rep _ _ _ u _ from r2)
    cases (show Rep _ _ _ x _ from r3)
    rename_i i j m
    obtain ⟨u1, u2, u3, rfl, ⟨t1, rfl⟩, ⟨t2, rfl⟩, ⟨t3, rfl⟩⟩ := valsT3 r
    refine max_three_ints (I.ok.hd xo.calm) fun h' tk k => ?_
    have e : ∃ t, (if j > i then (if m > j then Value.int m t3 else .int j t2) else (if m > i then Value.int m t3 else .int i t1)) = .int (max i (max j m)) t := by
      split <;> split
      · exact ⟨t3, by congr 1; omega⟩
      · exact ⟨t2, by congr 1; omega⟩
      · exact ⟨t3, by congr 1; omega⟩
      · exact ⟨t1, by congr 1; omega⟩
    obtain ⟨t, e⟩ := e
    rw [e]
    exact ⟨.int _, H, I.kept k, ⟨t, rfl⟩, q _ H w Le.refl ok (Rep.int _)⟩
  · obtain ⟨v, rfl, r1⟩ := evreps1 er
    obtain ⟨ns, ⟨rfl, hne⟩, q⟩ := q
    cases (show Rep _ _ _ v _ from r1) with
    | lst hl nm rs =>
      have ev := reps_ints rs
      subst ev
      exact cr_max xo.calm pins s σ H _ us Q I r ⟨_, ns, rfl, SqL.of hl, List.length_pos_iff.mpr hne, fun m a b => q m a b _ H w Le.refl ok (Rep.int _)⟩
  · obtain ⟨v, rfl, r1⟩ := evreps1 er
    obtain ⟨ns, ⟨rfl, hne⟩, q⟩ := q
    cases (show Rep _ _ _ v _ from r1) with
    | lst hl nm rs =>
      have ev := reps_ints rs
      subst ev
      exact cr_min xo.calm pins s σ H _ us Q I r ⟨_, ns, rfl, SqL.of hl, List.length_pos_iff.mpr hne, fun m a b => q m a b _ H w Le.refl ok (Rep.int _)⟩
  · exact q.elim
end
end VI

/-! VI7: the call of a def, in frames that are under no guard. -/
namespace VI
open PySem PySem.Spec PyProof.Rows L2
/-- a def's promise by its meaning -/
def spG (K : PySem.W.Frag) (ar : Nat) (f : Sem) : Sp := fun vs H Q _ => vs.length = ar ∧ ∃ w g evs, w.la = [] ∧ WOk K H w ⟨g, []⟩ ∧ EVReps K H w ⟨g, []⟩ vs evs ∧
  f evs g fun ev g' => ∀ v H' w', w'.la = [] → Le H w ⟨g, []⟩ H' w' ⟨g', []⟩ → WOk K H' w' ⟨g', []⟩ → EVRep K H' w' ⟨g', []⟩ v ev → Q v H'
structure FnOkG (P : Program) (w : World) (K : PySem.W.Frag) (mg : Str → Option Value) (base : Heap) (k : Nat) (f : Addr) (fd : FuncData) (ps : List Str) (sp : Sp) : Prop where
  len : ∀ vs H Q E, sp vs H Q E → vs.length = ps.length
  run : ∀ (A : Around) (outer : List Env) (s : Shared) (H : Hp) (args : Args) (us : List Value) (vs : List V) (Q : VK) (E : XK), Room k A → A.guards = some [] → Env0 P w K mg base A outer s H → BindsTo s fd args (ps.zip us) → Vals vs us → sp vs H Q E →
    codeAny (model P w) A (.call (.ref f) args) (CR CX0 outer P w H s Q E) s
section
variable {X : Cx} {k : Nat} {f : Addr} {fd : FuncData} {ps : List Str} {sp : Sp} {x : Str} {p pos : Pos} {e : Expr} {es : List Expr} {t : TA}
theorem run_fnG {pins : List (Addr × Obj)} {σ : L2.St} {H : Hp} {s : Shared} {Q : VK} {us : List Value} {vs : List V} (F : FnOkG X.prog X.w X.K X.mg X.base k f fd ps sp) (hr : Room k X.A) (hg : X.A.guards = some []) (hb : Binds X.K fd ps [])
    (I : Inv X pins σ H s) (r : Vals vs us) (h : sp vs H Q E0) : wpAny (model X.prog X.w) X.A (call (.ref f) us) (EP X pins σ Q) X.xe s := by
  have hl : (us ++ []).length = ps.length := by rw [List.append_nil, ← r.length]; exact F.len _ _ _ _ h
  have hb2 := hb s us I.kIn hl
  rw [List.append_nil] at hb2
  refine wpAny_call (codeAny_mono (F.run X.A X.stack s H ⟨us, []⟩ us vs Q E0 hr hg I.env0 hb2 r h) fun r s' hq => ?_)
  cases r with
  | error e => exact False.elim hq
  | ok fl =>
    cases fl with
    | ret u => exact I.after hq
    | next => exact False.elim hq
    | brk => exact False.elim hq
    | cont => exact False.elim hq
theorem pe_callG (F : FnOkG X.prog X.w X.K X.mg X.base k f fd ps sp) (hr : Room k X.A) (hgd : X.A.guards = some []) (hg : Gl X x) (hm : X.mg x = some (.ref f)) (hk : PySem.W.keepIn X.K (.ref f) = true) (hb : Binds X.K fd ps [])
    (ha : PA X (e :: es) t) (hdb : (x == ("__debug__" : Str)) = false) (he : starEach (e :: es) X.env = (false, eval e X.env) :: starEach es X.env) (hpl : (backTo pos (starEach es X.env)).any (·.1) = false) :
    PE X (.Call (.Name x p) (e :: es) [] pos) (tCall sp [] E0 t) := by
  refine ⟨fun pins s σ H Q I h => ?_⟩
  refine wpAny_Call_Name_kw (ld_glob I hg hm ?_ hdb)
  refine PySem.W.callWith_K (h₀ := X.base) I.ok.mod.kin hk (thn (ha.run pos pins s σ H _ I h) fun us s1 ⟨vs, H1, I1, r, q⟩ => ⟨I1.kIn, ?_⟩) he hpl
  have q : sp (vs ++ []) H1 Q E0 := q
  rw [List.append_nil] at q
  exact run_fnG F hr hgd hb I1 r q
theorem pe_callGS (F : FnOkG X.prog X.w X.K X.mg X.base k f fd ps sp) (hr : Room k X.A) (hgd : X.A.guards = some []) (hg : Gl X x) (hm : X.mg x = some (.ref f)) (hk : PySem.W.keepIn X.K (.ref f) = true) (hb : Binds X.K fd ps [])
    (ha : PA X (e :: es) t) (hdb : (x == ("__debug__" : Str)) = false) (he : starEach (e :: es) X.env = (false, eval e X.env) :: starEach es X.env) (hst : (backTo pos (starEach es X.env)).any (·.1) = true) :
    PE X (.Call (.Name x p) (e :: es) [] pos) (fun σ H Q => t σ H fun vs H1 => sp vs H1 Q E0) := by
  refine ⟨fun pins s σ H Q I h => ?_⟩
  refine wpAny_Call_Name_kw (ld_glob I hg hm ?_ hdb)
  refine PySem.W.callWith_S2 (h₀ := X.base) I.ok.mod.kin hk (thn (ha.run pos pins s σ H _ I h) fun us s1 ⟨vs, H1, I1, r, q⟩ => ⟨I1.kIn, ?_⟩) he hst
  exact run_fnG F hr hgd hb I1 r q
theorem pe_callG0 (F : FnOkG X.prog X.w X.K X.mg X.base k f fd ps sp) (hr : Room k X.A) (hgd : X.A.guards = some []) (hg : Gl X x) (hm : X.mg x = some (.ref f)) (hk : PySem.W.keepIn X.K (.ref f) = true) (hb : Binds X.K fd ps [])
    (hdb : (x == ("__debug__" : Str)) = false) : PE X (.Call (.Name x p) [] [] pos) (tCall sp [] E0 tNil) := by
  refine ⟨fun pins s σ H Q I h => ?_⟩
  refine wpAny_Call_Name_kw (ld_glob I hg hm ?_ hdb)
  exact PySem.W.callWith_K0 I.kIn hk (run_fnG (us := []) F hr hgd hb I .nil h)
end
/-! ### from a frame's world to a callee's -/
def Wd.inner (w : Wd) (st : Sto) : Wd := ⟨w.mu, [], fun a => w.F a ∨ ∃ (n : Nat) (xs : List D), w.la[n]? = some a ∧ st.l[n]? = some (some xs)⟩
section
variable {K : PySem.W.Frag} {H H1 : Hp} {w w1 : Wd} {st st1 : Sto} {g : List (List D)}
theorem inner_M {a : Addr} : (w.inner st).M ⟨st.g, []⟩ a ↔ w.M st a := by
  unfold Wd.M Wd.inner
  simp only [List.getElem?_nil, reduceCtorEq, false_and, exists_false, false_or]
  constructor
  · rintro (h | h | h)
    · exact .inl h
    · exact .inr (.inr h)
    · exact .inr (.inl h)
  · rintro (h | h | h)
    · exact .inl h
    · exact .inr (.inr h)
    · exact .inr (.inl h)
theorem nodup_parts {α : Type} {l m : List α} (h : (l ++ m).Nodup) {a : α} (h1 : a ∈ l) (h2 : a ∈ m) : False := by
  rw [List.nodup_append] at h
  exact h.2.2 a h1 a h2 rfl
theorem nodup_ix {α : Type} : ∀ {l : List α} {i j : Nat} {a : α}, l.Nodup → l[i]? = some a → l[j]? = some a → i = j
  | [], _, _, _, _, h, _ => by simp at h
  | x :: r, 0, 0, _, _, _, _ => rfl
  | x :: r, 0, j + 1, a, n, h1, h2 => by
    simp at h1 h2
    subst h1
    exact absurd (List.mem_iff_getElem?.mpr ⟨j, h2⟩) (List.nodup_cons.mp n).1
  | x :: r, i + 1, 0, a, n, h1, h2 => by
    simp at h1 h2
    subst h2
    exact absurd (List.mem_iff_getElem?.mpr ⟨i, h1⟩) (List.nodup_cons.mp n).1
  | x :: r, i + 1, j + 1, a, n, h1, h2 => by
    have := nodup_ix (i := i) (j := j) (List.nodup_cons.mp n).2 (by simpa using h1) (by simpa using h2)
    omega
theorem WOk.inner (ok : WOk K H w st) : WOk K H (w.inner st) ⟨st.g, []⟩ := by
  refine ⟨ok.lg, rfl, fun n xs h => ?_, fun n xs h => ?_, fun n a h => ?_, ?_, fun a h => ?_⟩
  · obtain ⟨a, vs, e, z, r⟩ := ok.g n xs h
    exact ⟨a, vs, e, z, r.conv fun b o hb m => ⟨hb, fun q => m (inner_M.mp q)⟩⟩
  · simp at h
  · simp at h
  · show (w.mu ++ []).Nodup
    rw [List.append_nil]
    exact ok.nd.sublist (List.sublist_append_left _ _)
  · rcases h with h | ⟨n, xs, h, h2⟩
    · obtain ⟨q1, q2, _⟩ := ok.fF a h
      exact ⟨q1, q2, fun z => by cases z⟩
    · obtain ⟨a', vs, e, z, _⟩ := ok.l n xs h2
      rw [h] at e
      cases e
      exact ⟨⟨_, z⟩, fun m => nodup_parts ok.nd m (List.mem_iff_getElem?.mpr ⟨n, h⟩), fun z => by cases z⟩
theorem EVReps.inner : ∀ {vs : List V} {evs : List EV} {p : Prop}, EVReps K H w st vs evs → argsK evs p → EVReps K H (w.inner st) ⟨st.g, []⟩ vs evs ∧ p
  | _, _, _, .nil, h => ⟨.nil, h⟩
  | _, _, _, .cons (d := .d x) r t, h => let ⟨q, h⟩ := EVReps.inner t h; ⟨.cons (show Rep K H _ _ x from Rep.conv (fun b o hb m => ⟨hb, fun q => m (inner_M.mp q)⟩) r) q, h⟩
  | _, _, _, .cons (d := .gm n) r t, h => let ⟨q, h⟩ := EVReps.inner t h; ⟨.cons (show EVRep K H _ _ _ (.gm n) from r) q, h⟩
  | _, _, _, .cons (d := .sc ds) r t, h => by
    obtain ⟨q, h⟩ := EVReps.inner t h
    obtain ⟨a, xs, e, f, z⟩ := r
    exact ⟨.cons ⟨a, xs, e, f.conv fun b o hb m => ⟨hb, fun q => m (inner_M.mp q)⟩, z.conv fun b o hb m => ⟨hb, fun q => m (inner_M.mp q)⟩⟩ q, h⟩
  | _, _, _, .cons (d := .lm n) _ _, h => h.elim
/-- behind the call -/
theorem outer_of (ok : WOk K H w st) (hl : w1.la = []) (le : Le H (w.inner st) ⟨st.g, []⟩ H1 w1 ⟨g, []⟩) (ok1 : WOk K H1 w1 ⟨g, []⟩) :
    Le H w st H1 ⟨w1.mu, w.la, w.F⟩ ⟨g, st.l⟩ ∧ WOk K H1 ⟨w1.mu, w.la, w.F⟩ ⟨g, st.l⟩ ∧ ∀ v ev, EVRep K H1 w1 ⟨g, []⟩ v ev → EVRep K H1 ⟨w1.mu, w.la, w.F⟩ ⟨g, st.l⟩ v ev := by
  have hF : w1.F = fun a => w.F a ∨ ∃ (n : Nat) (xs : List D), w.la[n]? = some a ∧ st.l[n]? = some (some xs) := le.F
  have hM : ∀ a, Wd.M ⟨w1.mu, w.la, w.F⟩ ⟨g, st.l⟩ a ↔ w1.M ⟨g, []⟩ a := fun a => by
    unfold Wd.M
    simp only [List.getElem?_nil, reduceCtorEq, and_false, exists_false, false_or]
    rw [hF]
    constructor
    · rintro (h | h | h)
      · exact .inl h
      · exact .inr (.inr h)
      · exact .inr (.inl h)
    · rintro (h | h | h)
      · exact .inl h
      · exact .inr (.inr h)
      · exact .inr (.inl h)
  have lee : Le H w st H1 ⟨w1.mu, w.la, w.F⟩ ⟨g, st.l⟩ :=
    ⟨rfl, le.mu, ⟨[], by simp⟩, fun a o h m => let z := le.fr a o h (fun q => m (inner_M.mp q)); ⟨z.1, fun q => z.2 ((hM a).mp q)⟩, fun a h => le.fo a (.inl h)⟩
  have dead : ∀ (n : Nat) a, w.la[n]? = some a → st.l[n]? = some none → ¬ w.M st a := fun n a h h2 m => by
    have hmem : a ∈ w.la := List.mem_iff_getElem?.mpr ⟨n, h⟩
    rcases m with m | ⟨i, xs, m, m2⟩ | m
    · exact nodup_parts ok.nd m hmem
    · have : n = i := nodup_ix (ok.nd.sublist (List.sublist_append_right _ _)) h m
      subst this
      rw [h2] at m2
      cases m2
    · exact (ok.fF a m).2.2 hmem
  refine ⟨lee, ⟨ok1.lg, ok.ll, fun n xs h => ?_, fun n xs h => ?_, fun n a h e => ?_, ?_, fun a h => ?_⟩, fun v ev r => ?_⟩
  · obtain ⟨a, vs, e, z, r⟩ := ok1.g n xs h
    exact ⟨a, vs, e, z, r.conv fun b o hb m => ⟨hb, fun q => m ((hM b).mp q)⟩⟩
  · obtain ⟨a, vs, e, z, r⟩ := ok.l n xs h
    exact ⟨a, vs, e, by rw [le.fo a (.inr ⟨n, xs, e, h⟩)]; exact z, r.le lee⟩
  · obtain ⟨o, z⟩ := ok.fz n a h e
    exact ⟨o, (lee.fr a _ z (dead n a e h)).1⟩
  · show (w1.mu ++ w.la).Nodup
    have n1 : w1.mu.Nodup := by
      have := ok1.nd
      rw [hl, List.append_nil] at this
      exact this
    rw [List.nodup_append]
    refine ⟨n1, ok.nd.sublist (List.sublist_append_right _ _), fun a ha b hb e => ?_⟩
    subst e
    obtain ⟨n, hn⟩ := List.mem_iff_getElem?.mp hb
    have hlt : n < st.l.length := by rw [← ok.ll]; exact (List.getElem?_eq_some_iff.mp hn).1
    have hs : st.l[n]? = some st.l[n] := List.getElem?_eq_getElem hlt
    cases q : st.l[n] with
    | none =>
      rw [q] at hs
      obtain ⟨o, z⟩ := ok.fz n a hs hn
      exact (le.fr a _ z fun m => dead n a hn hs (inner_M.mp m)).2 (.inl ha)
    | some xs =>
      rw [q] at hs
      exact (ok1.fF a (by rw [hF]; exact .inr ⟨n, xs, hn, hs⟩)).2.1 ha
  · obtain ⟨q1, q2, _⟩ := ok1.fF a (by rw [hF]; exact .inl h)
    exact ⟨q1, q2, (ok.fF a h).2.2⟩
  · cases ev with
    | d x => exact Rep.conv (fun b o hb m => ⟨hb, fun q => m ((hM b).mp q)⟩) r
    | lm n =>
      obtain ⟨a, e, h⟩ := r
      rw [hl] at h
      simp at h
    | gm n => exact r
    | sc ds =>
      obtain ⟨a, xs, e, f, z⟩ := r
      exact ⟨a, xs, e, f.conv fun b o hb m => ⟨hb, fun q => m ((hM b).mp q)⟩, z.conv fun b o hb m => ⟨hb, fun q => m ((hM b).mp q)⟩⟩
end
end VI

/-! VI8: the check of a text against a piece of the small language; readings by the meaning; parts of the soundness. -/
namespace VI
open PySem PySem.Spec PyProof.Rows L2
/-! ### the check -/
/-- which of math's names are there -/
structure Im where
  g : Bool
  i : Bool
structure Ctx where
  N : List Str
  sc : Scope
  fn : Str → Bool
  fns : List (Str × Nat)
  gls : List Str
  gcd : Im
def okNm (x : Str) : Bool := !(x == ("__debug__" : Str)) && (!(x == ("__classdict__" : Str)) && decide (x ≠ "__name__"))
def visB (sc : Scope) (x : Str) : Bool := match sc.names.lookup x with
  | some .local => true
  | some .cell => true
  | some .free => true
  | _ => false
def isLoc (sc : Scope) (x : Str) : Bool := match sc.names.lookup x with
  | some .local => true
  | _ => false
def locB (sc : Scope) (x : Str) : Bool := match sc.names.lookup x with
  | some .local => true
  | some .cell => true
  | _ => false
def glB (sc : Scope) (x : Str) : Bool := match sc.names.lookup x with
  | some .globalImplicit => true
  | _ => false
/-- a test of such a form is its value's truth -/
def plainT : Expr → Bool
  | .BinOp .. => true
  | .Call .. => true
  | .Constant .. => true
  | .Subscript .. => true
  | .Name .. => true
  | .List .. => true
  | .Tuple .. => true
  | _ => false
def notStar : Expr → Bool
  | .Starred .. => false
  | _ => true
def notSet : Expr → Bool
  | .Set .. => false
  | _ => true
def notSlice : Expr → Bool
  | .Slice .. => false
  | _ => true
structure CK where
  e : Expr → Bool
  t : Expr → Bool
  l : List Expr → Bool
  i : Expr → Expr → Bool
  g : Expr → Bool
  gl : List Expr → Bool
  o : Option Expr → Bool
  ls : List Expr → Bool := fun _ => false
def noCK : CK where
  e := fun _ => false
  t := fun _ => false
  l := fun _ => false
  i := fun _ _ => false
  g := fun _ => false
  gl := fun _ => false
  o := fun _ => false
def ckE (f : Expr → Bool) : CK where
  e := f
  t := fun e => f e && plainT e
  l := fun _ => false
  i := fun _ it => f it
  g := fun _ => false
  gl := fun _ => false
  o := fun o => match o with
    | some e => f e
    | none => false
def ckB (f : Expr → Bool) : CK := { noCK with
  e := f
  t := f }
def bltN : Blt → Str
  | .str => "str" | .len => "len" | .abs => "abs" | .int => "int" | .min2 => "min" | .max2 => "max" | .gcd => "gcd" | .isqrt => "isqrt" | .all => "all" | .any => "any" | .tuple => "tuple" | .list => "list" | .repr => "repr"
  | .min3 => "min" | .max3 => "max" | .maxL => "max" | .minL => "min"
def tyN : Ty → Str
  | .tuple => "tuple" | .list => "list" | .str => "str" | .int => "int" | .bool => "bool"
def notCall : Expr → Bool
  | .Call .. => false
  | _ => true
def isNil : IE → Bool
  | .nil => true
  | _ => false
def isStarE : Expr → Bool
  | .Starred .. => true
  | _ => false
def ifsB (nl : Bool) (f : Expr → Bool) : List Expr → Bool
  | [] => nl
  | [y] => !nl && f y
  | _ => false
def isBf (neg : Bool) (f g : Expr → Bool) : Expr → Bool
  | .Compare l [.Is] [r] _ => !neg && (f l && (notSet r && g r))
  | .Compare l [.IsNot] [r] _ => neg && (f l && (notSet r && g r))
  | _ => false
def uNot (f : Expr → Bool) : Expr → Bool
  | .UnaryOp .Not x _ => f x
  | _ => false
def bAnd (f g : Expr → Bool) : Expr → Bool
  | .BoolOp .And [x, y] _ => f x && g y
  | .BoolOp .And (x :: y :: z :: r) p => f x && g (.BoolOp .And (y :: z :: r) p)
  | _ => false
def bOr (f g : Expr → Bool) : Expr → Bool
  | .BoolOp .Or [x, y] _ => f x && g y
  | .BoolOp .Or (x :: y :: z :: r) p => f x && g (.BoolOp .Or (y :: z :: r) p)
  | _ => false
/-- a display's pairs are the constants given -/
def keysB : List (Str × D) → List (Option Expr) → List Expr → Bool
  | [], [], [] => true
  | (k, .str d) :: ks, some (.Constant (.str x) _ _) :: es, .Constant (.str y) _ _ :: vs => decide (x = k) && (decide (y = d) && keysB ks es vs)
  | (k, .int d) :: ks, some (.Constant (.str x) _ _) :: es, .Constant (.int y) _ _ :: vs => decide (x = k) && (decide (y = d) && keysB ks es vs)
  | _, _, _ => false
def ck : IE → Ctx → CK
  | .cst d, _ => ckE fun e => match d, e with
    | .int i, .Constant (.int j) _ _ => decide (i = j)
    | .bool b, .Constant (.bool c) _ _ => b == c
    | .str x, .Constant (.str y) _ _ => decide (x = y)
    | .none, .Constant .none _ _ => true
    | _, _ => false
  | .var i, c => { ckE (fun e => match e with
      | .Name x _ => decide (c.N[i]? = some x) && (visB c.sc x && okNm x)
      | _ => false) with
      g := fun e => match e with
        | .Name x _ => decide (c.N[i]? = some x) && (locB c.sc x && (c.fn x || isLoc c.sc x))
        | _ => false }
  | .glo n, c => ckE fun e => match e with
      | .Name x _ => decide (c.gls[n]? = some x) && (glB c.sc x && okNm x)
      | _ => false
  | .bin o a b, c => ckE fun e => match e with
      | .BinOp l op r _ => decide (op = opA o) && ((ck a c).e l && (ck b c).e r)
      | _ => false
  | .neg a, c => ckE fun e => match e with
      | .UnaryOp .USub x _ => (ck a c).e x
      | _ => false
  | .nt a, c => { noCK with
      e := uNot (ck a c).e
      t := uNot (ck a c).t }
  | .cmp o a b, c => ckB fun e => match e with
      | .Compare l [op] [r] _ => decide (op = opC o) && ((ck a c).e l && ((ck b c).e r && notSet r))
      | _ => false
  | .cmp2 o p a b d, c => ckB fun e => match e with
      | .Compare l [op, op2] [m, r] _ => decide (op = opC o) && (decide (op2 = opC p) && ((ck a c).e l && ((ck b c).e m && ((ck d c).e r && notSet r))))
      | _ => false
  | .isN a, c => ckB fun e => match e with
      | .Compare l [.Is] [.Constant .none _ _] _ => (ck a c).e l
      | _ => false
  | .notN a, c => ckB fun e => match e with
      | .Compare l [.IsNot] [.Constant .none _ _] _ => (ck a c).e l
      | _ => false
  | .an a b, c => { noCK with
      e := bAnd (ck a c).e (ck b c).e
      t := bAnd (ck a c).t (ck b c).t }
  | .oo a b, c => { noCK with
      e := bOr (ck a c).e (ck b c).e
      t := bOr (ck a c).t (ck b c).t }
  | .ife t a b, c => ckE fun e => match e with
      | .IfExp q x y _ => (ck t c).t q && ((ck a c).e x && (ck b c).e y)
      | _ => false
  | .nil, _ => { noCK with
      l := fun es => es.isEmpty
      ls := fun es => es.isEmpty
      gl := fun es => es.isEmpty
      o := fun o => o.isNone }
  | .cons a r, c => { noCK with
      l := fun es => match es with
        | e :: es => notStar e && ((ck a c).e e && (ck r c).l es)
        | _ => false
      ls := fun es => match es with
        | e :: es => notStar e && ((ck a c).e e && (ck r c).ls es)
        | _ => false
      gl := fun es => match es with
        | e :: es => notStar e && ((ck a c).g e && (ck r c).gl es)
        | _ => false }
  | .tup r, c => { ckE (fun e => match e with
      | .Tuple es _ _ => decide (es.length ≤ 1000) && (ck r c).l es
      | _ => false) with
      g := fun e => match e with
        | .Tuple es _ _ => (ck r c).gl es
        | _ => false }
  | .lst kd r, c => ckE fun e => match e with
      | .List es _ => decide (es.length ≤ 1000) && (ck r c).l es
      | _ => false
  | .ixc a n, c => ckE fun e => match e with
      | .Subscript x (.Constant (.int j) _ _) _ => decide (j = (n : Nat)) && (ck a c).e x
      | _ => false
  | .ix a i, c => ckE fun e => match e with
      | .Subscript x y _ => notSlice y && ((ck a c).e x && (ck i c).e y)
      | _ => false
  | .sl kd a lo hi, c => ckE fun e => match e with
      | .Subscript x (.Slice l h none _) _ => (ck a c).e x && ((ck lo c).o l && (ck hi c).o h)
      | _ => false
  | .call n r, c => ckE fun e => match e with
      | .Call (.Name f _) es [] _ => decide (c.fns[n]? = some (f, es.length)) && (glB c.sc f && (okNm f && (ck r c).l es))
      | _ => false
  | .blt b kd r, c => ckE fun e => match e with
      | .Call (.Name f _) (e :: es) [] _ => decide (f = bltN b) && ((c.gcd.g || decide (b ≠ .gcd)) && (c.gcd.i || decide (b ≠ .isqrt)) && (glB c.sc f && (ck r c).l (e :: es)))
      | _ => false
  | .cmpr kd own tg it t e, c => ckE fun x => match x with
      | .ListComp elt [⟨tgx, itx, ifs, a⟩] scope _ =>
        let c' : Ctx := { c with sc := relS scope c.sc, fn := fun x => scope.names.lookup x == some .cell }
        decide (a = 0) && (blkC c.N c.sc scope (own.map fun i => (c.N.getD i Str.empty, i)) && ((ck it c).i tgx itx && (notSet itx && ((ck tg c').g tgx && ((slotsOf tg).all (fun i => decide (i ∈ own)) && ((match ifs with
          | [] => isNil t
          | [y] => !isNil t && (ck t c').t y
          | _ => false) && (ck e c').e elt))))))
      | _ => false
  | .rng r, c => { noCK with i := fun _ it => match it with
      | .Call (.Name f _) [x] [] _ => decide (f = "range") && (glB c.sc f && (ck r c).l [x])
      | .Call (.Name f _) [x, y] [] _ => decide (f = "range") && (glB c.sc f && (ck r c).l [x, y])
      | .Call (.Name f _) [x, y, z] [] _ => decide (f = "range") && (glB c.sc f && (ck r c).l [x, y, z])
      | _ => false }
  | .enm r, c => { noCK with i := fun tg it => match tg, it with
      | .Tuple _ _ _, .Call (.Name f _) [x] [] _ => decide (f = "enumerate") && (glB c.sc f && (ck r c).l [x])
      | _, _ => false }
  | .zp r, c => { noCK with i := fun tg it => match tg, it with
      | .Tuple _ _ _, .Call (.Name f _) [x, y] [] _ => decide (f = "zip") && (glB c.sc f && (ck r c).l [x, y])
      | _, _ => false }
  | .isi a t, c => ckB fun e => match e with
      | .Call (.Name f _) [x, .Name y _] [] _ => decide (f = "isinstance") && (decide (y = tyN t) && (glB c.sc f && (glB c.sc y && (notStar x && (ck a c).e x))))
      | _ => false
  | .scons a r, c => { noCK with
      ls := fun es => match es with
        | .Starred e _ :: es => (ck a c).e e && (ck r c).ls es
        | _ => false }
  | .tupS r, c => ckE fun e => match e with
      | .Tuple es _ _ => (ck r c).ls es
      | _ => false
  | .lstS kd r, c => ckE fun e => match e with
      | .List es _ => (ck r c).ls es
      | _ => false
  | .srs kd a, c => ckE fun e => match e with
      | .Call (.Name f _) [.Call (.Name g _) [x] [] _] [] _ => decide (f = "sorted") && (decide (g = "set") && (glB c.sc f && (glB c.sc g && (notStar x && (ck a c).e x))))
      | _ => false
  | .srl kd a, c => ckE fun e => match e with
      | .Call (.Name f _) [x] [] _ => decide (f = "sorted") && (glB c.sc f && (notStar x && (ck a c).e x))
      | _ => false
  | .lop kd o a b, c => ckE fun e => match e with
      | .BinOp l op r _ => decide (op = opA o) && ((ck a c).e l && (ck b c).e r)
      | _ => false
  | .idx a x, c => ckE fun e => match e with
      | .Call (.Attribute o m ap) [y] [] cp => decide (m = "index") && (notCall o && ((ap.endLine == cp.line) && (notStar y && ((ck a c).e o && (ck x c).e y))))
      | _ => false
  | .dget ks a b, c => ckE fun e => match e with
      | .Call (.Attribute (.Dict es vs _) m ap) [x, y] [] cp => decide (m = "get") && (keysB ks es vs && ((decide (ks.map (·.1)).Nodup && (decide (ks ≠ []) && decide (ks.length ≤ 15))) && ((ap.endLine == cp.line) && (notStar x && (notStar y && ((ck a c).e x && (ck b c).e y))))))
      | _ => false
  | .callS n ar r, c => ckE fun e => match e with
      | .Call (.Name f _) (e :: es) [] _ => decide (c.fns[n]? = some (f, ar)) && (glB c.sc f && (okNm f && (notStar e && (es.any isStarE && (ck r c).ls (e :: es)))))
      | _ => false
  | .cmpr2 kd own tg it t tg1 it1 t1 e, c => ckE fun x => match x with
      | .ListComp elt [⟨tgx, itx, ifs, a⟩, ⟨tgx1, itx1, ifs1, a1⟩] scope _ =>
        let c' : Ctx := { c with sc := relS scope c.sc, fn := fun x => scope.names.lookup x == some .cell }
        decide (a = 0) && (decide (a1 = 0) && (blkC c.N c.sc scope (own.map fun i => (c.N.getD i Str.empty, i)) && ((ck it c).i tgx itx && (notSet itx && ((ck tg c').g tgx && ((slotsOf tg).all (fun i => decide (i ∈ own)) && (ifsB (isNil t) (ck t c').t ifs &&
          ((ck it1 c').i tgx1 itx1 && (notSet itx1 && ((ck tg1 c').g tgx1 && ((slotsOf tg1).all (fun i => decide (i ∈ own)) && (ifsB (isNil t1) (ck t1 c').t ifs1 && (ck e c').e elt))))))))))))
      | _ => false
  | .isB neg a b, c => ckB (isBf neg (ck a c).e (ck b c).e)
  | .sri kd a, c => ckE fun e => match e with
      | .Call (.Name f _) [x] [] _ => decide (f = "sorted") && (glB c.sc f && (notStar x && (ck a c).e x))
      | _ => false
  | .ssi kd a, c => ckE fun e => match e with
      | .Call (.Name f _) [.Call (.Name g _) [x] [] _] [] _ => decide (f = "sorted") && (decide (g = "set") && (glB c.sc f && (glB c.sc g && (notStar x && (ck a c).e x))))
      | _ => false
  | .rgv tp kd a, c => ckE fun e => match e with
      | .Call (.Name f _) [.Call (.Name g _) [x] [] _] [] _ => decide (f = if tp = true then "tuple" else "list") && (decide (g = "range") && (glB c.sc f && (glB c.sc g && (notStar x && (ck a c).e x))))
      | _ => false
/-! ### the readings -/
section
variable (K : PySem.W.Frag) (tb : Tb) (ie : IE)
abbrev TEs : TE := fun σ H Q => ∃ w st env, WOk K H w st ∧ EnvRep K H w st σ env ∧ (sem tb ie).e env st (PostW K H w st Q)
abbrev TTs : TT := fun σ H Q => ∃ w st env, WOk K H w st ∧ EnvRep K H w st σ env ∧ (sem tb ie).t env st fun b st' => ∀ H' w', Le H w st H' w' st' → WOk K H' w' st' → Q b H'
abbrev TLs (n : Nat) : TA := fun σ H Q => ∃ w st env, WOk K H w st ∧ EnvRep K H w st σ env ∧ (sem tb ie).l env st fun evs st' => ∀ vs H' w', Le H w st H' w' st' → WOk K H' w' st' → EVReps K H' w' st' vs evs → vs.length = n → Q vs H'
abbrev TL0 : TA := fun σ H Q => ∃ w st env, WOk K H w st ∧ EnvRep K H w st σ env ∧ (sem tb ie).l env st fun evs st' => ∀ vs H' w', Le H w st H' w' st' → WOk K H' w' st' → EVReps K H' w' st' vs evs → Q vs H'
abbrev TOs : TO := fun σ H Q => ∃ w st env, WOk K H w st ∧ EnvRep K H w st σ env ∧ (sem tb ie).o env st fun b st' => ∀ H' w', Le H w st H' w' st' → WOk K H' w' st' → Q b H'
/-- what an iterator yields -/
def Fr (H : Hp) (w : Wd) (st : Sto) (H' : Hp) (w' : Wd) (st' : Sto) : Prop := ∀ a o, H a = some o → ¬ w.M st a → H' a = some o ∧ ¬ w'.M st' a
def Ys (J : It) (H0 : Hp) (w0 : Wd) (st0 : Sto) (xs : List D) : Prop := ∀ H w st, Fr H0 w0 st0 H w st → WOk K H w st → ∀ i : Nat, (xs.length ≤ i → J.stop i H) ∧ ∀ x, xs[i]? = some x → J.go i H ∧ ∀ v H', J.yld i H v H' → Le H w st H' w st ∧ WOk K H' w st ∧ Rep K H' (w.M st) v x
abbrev TIs : TI := fun σ H R => ∃ w st env, WOk K H w st ∧ EnvRep K H w st σ env ∧ (sem tb ie).i env st fun xs st' => ∀ J H' w', Le H w st H' w' st' → WOk K H' w' st' → Ys K J H' w' st' xs → R J H'
def Chg (vs : List Nat) (σ σ' : L2.St) : Prop := σ'.length = σ.length ∧ ∀ j : Nat, j ∉ vs → σ'[j]? = σ[j]?
abbrev TGs1 : TG := fun v σ H Q => ∃ w st env ev, WOk K H w st ∧ EnvRep K H w st σ env ∧ EVRep K H w st v ev ∧ (sem tb ie).a ev env fun env' => ∀ σ', EnvRep K H w st σ' env' → Chg (slotsOf ie) σ σ' → Q σ' H
abbrev TGsL (n : Nat) : L2.TGs := fun vs σ H Q => ∃ w st env ds, WOk K H w st ∧ EnvRep K H w st σ env ∧ Reps K H (w.M st) vs ds ∧ vs.length = n ∧ (sem tb ie).al ds env fun env' => ∀ σ', EnvRep K H w st σ' env' → Chg (slotsOf ie) σ σ' → Q σ' H
end
theorem Chg.refl {vs : List Nat} {σ : L2.St} : Chg vs σ σ := ⟨rfl, fun _ _ => rfl⟩
theorem Chg.trans {a b : List Nat} {σ σ1 σ2 : L2.St} (h1 : Chg a σ σ1) (h2 : Chg b σ1 σ2) : Chg (a ++ b) σ σ2 :=
  ⟨h2.1.trans h1.1, fun j hj => (h2.2 j fun z => hj (List.mem_append_right _ z)).trans (h1.2 j fun z => hj (List.mem_append_left _ z))⟩
/-! ### what the context holds -/
structure CallOk (X : Cx) (name : Str) (ar : Nat) (f : Sem) : Prop where
  ok : ∃ (fa : Addr) (fd : FuncData) (ps : List Str) (k : Nat), FnOkG X.prog X.w X.K X.mg X.base k fa fd ps (spG X.K ar f) ∧ Room k X.A ∧ X.mg name = some (.ref fa) ∧ PySem.W.keepIn X.K (.ref fa) = true ∧ Binds X.K fd ps []
structure CxOk (tb : Tb) (c : Ctx) (X : Cx) : Prop where
  xo : XOk X
  mono : tb.Mono
  N : X.N = c.N
  nd : X.N.Nodup
  sc : X.env.scope = c.sc
  fn : ∀ x, c.fn x = true → X.fn x = true
  fns : c.fns = tb.fn.map fun q => (q.1, q.2.1)
  gls : c.gls = tb.gl.map (·.1)
  ok : ∀ (n : Nat) q, tb.fn[n]? = some q → CallOk X q.1 q.2.1 q.2.2
  gk : ∀ (n : Nat) q, tb.gl[n]? = some q → ∃ u v, X.mg q.1 = some u ∧ RelV v u ∧ ∀ H M, Rep X.K H M v q.2
  mgn : ∀ x ∈ bltNames, X.mg x = none
  gcd : c.gcd.g = true → X.mg "gcd" = some (.builtin "math.gcd")
  isq : c.gcd.i = true → X.mg "isqrt" = some (.builtin "math.isqrt")
theorem vis_of {X : Cx} {sc : Scope} {x : Str} (e : X.env.scope = sc) (h : visB sc x = true) : Vis X.env.scope x := by
  rw [e]
  unfold visB at h
  unfold Vis
  split at h
  · exact .inl (by assumption)
  · exact .inr (.inl (by assumption))
  · exact .inr (.inr (by assumption))
  · cases h
theorem loc_of {X : Cx} {sc : Scope} {x : Str} (e : X.env.scope = sc) (h : locB sc x = true) : L2.Loc X.env.scope x := by
  rw [e]
  unfold locB at h
  unfold L2.Loc
  split at h
  · exact .inl (by assumption)
  · exact .inr (by assumption)
  · cases h
theorem isLoc_of {X : Cx} {sc : Scope} {x : Str} (e : X.env.scope = sc) (h : isLoc sc x = true) : X.env.scope.names.lookup x = some .local := by
  rw [e]
  unfold isLoc at h
  split at h
  · assumption
  · cases h
theorem gl_of {X : Cx} {sc : Scope} {x : Str} (e : X.env.scope = sc) (h : glB sc x = true) : Gl X x := by
  unfold Gl Env.kindOf
  rw [e]
  unfold glB at h
  split at h
  · assumption
  · cases h
theorem okNm_of {x : Str} (h : okNm x = true) : (x == ("__debug__" : Str)) = false ∧ (x == ("__classdict__" : Str)) = false ∧ x ≠ "__name__" := by
  unfold okNm at h
  simp only [Bool.and_eq_true, Bool.not_eq_true', decide_eq_true_eq] at h
  exact h
theorem star_of {e : Expr} {es : List Expr} {env : Env} (h : notStar e = true) : starEach (e :: es) env = (false, eval e env) :: starEach es env := by
  cases e <;> first | rfl | cases h
theorem base_of {o : Expr} {m : Str} {env : Env} (h : notCall o = true) : attributeBase o m env (eval o env) = eval o env := by
  cases o <;> first | rfl | cases h
theorem few_of {x : Expr} {env : Env} {p : Pos} (h : notStar x = true) : ((backTo p (starEach [x] env)).all (fun x => !x.1) && (backToKw p (keywordEach [] env)).all (fun x => x.1.isSome)
      && decide (([x] : List Expr).length + ([] : List Keyword).length + (if ([] : List Keyword).isEmpty then 0 else 1) < 30)) = true := by
  rw [star_of h]
  rfl
theorem few2_of {x y : Expr} {env : Env} {p : Pos} (h : notStar x = true) (h' : notStar y = true) : ((backTo p (starEach [x, y] env)).all (fun x => !x.1) && (backToKw p (keywordEach [] env)).all (fun x => x.1.isSome)
      && decide (([x, y] : List Expr).length + ([] : List Keyword).length + (if ([] : List Keyword).isEmpty then 0 else 1) < 30)) = true := by
  rw [star_of h, star_of h']
  rfl
theorem marks_of {e : Expr} {op : CmpOp} (h : notSet e = true) : behindInMarks op e = false := by
  cases e <;> first | rfl | cases h
theorem marks2_of {b e : Expr} {op op2 : CmpOp} (h : notSet e = true) : lastMarks [op, op2] [b, e] = false := marks_of h
theorem fold_of {e : Expr} {env : Env} (h : notSet e = true) : ∀ x, foldedSetIterable e env x = pure x := by
  intro x
  cases e <;> first | rfl | cases h
theorem plainIx_of {e : Expr} (h : notSlice e = true) : PlainIx e := by
  intro o i
  cases e <;> first | rfl | cases h
theorem plainT_of {e : Expr} {env : Env} (h : plainT e = true) : ∀ whole, isTrue e env whole = (do let v ← whole; standAt e.pos; holding [v] (truthy v)) := by
  intro whole
  cases e <;> first | rfl | cases h
section
variable {K : PySem.W.Frag} {tb : Tb} {H : Hp} {w : Wd} {st : Sto} {σ : L2.St} {env : En}
theorem bE (ht : tb.Mono) (ie : IE) (ok : WOk K H w st) (er : EnvRep K H w st σ env) {k : KE} (h : (sem tb ie).e env st k) {Q : VK} (c : ∀ ev st', k ev st' → PostW K H w st Q ev st') : TEs K tb ie σ H Q :=
  ⟨w, st, env, ok, er, (sem_mono ht ie).e _ _ _ _ c h⟩
theorem bT (ht : tb.Mono) (ie : IE) (ok : WOk K H w st) (er : EnvRep K H w st σ env) {k : Bool → Sto → Prop} (h : (sem tb ie).t env st k) {Q : Bool → Hp → Prop} (c : ∀ b st', k b st' → ∀ H' w', Le H w st H' w' st' → WOk K H' w' st' → Q b H') : TTs K tb ie σ H Q :=
  ⟨w, st, env, ok, er, (sem_mono ht ie).t _ _ _ _ c h⟩
theorem bL (ht : tb.Mono) (ie : IE) {n : Nat} (ok : WOk K H w st) (er : EnvRep K H w st σ env) {k : List EV → Sto → Prop} (h : (sem tb ie).l env st k) {Q : List V → Hp → Prop} (c : ∀ evs st', k evs st' → ∀ vs H' w', Le H w st H' w' st' → WOk K H' w' st' → EVReps K H' w' st' vs evs → vs.length = n → Q vs H') : TLs K tb ie n σ H Q :=
  ⟨w, st, env, ok, er, (sem_mono ht ie).l _ _ _ _ c h⟩
theorem bO (ht : tb.Mono) (ie : IE) (ok : WOk K H w st) (er : EnvRep K H w st σ env) {k : Option Int → Sto → Prop} (h : (sem tb ie).o env st k) {Q : Option Int → Hp → Prop} (c : ∀ b st', k b st' → ∀ H' w', Le H w st H' w' st' → WOk K H' w' st' → Q b H') : TOs K tb ie σ H Q :=
  ⟨w, st, env, ok, er, (sem_mono ht ie).o _ _ _ _ c h⟩
end
/-! ### iterators -/
section
variable {K : PySem.W.Frag} {H : Hp} {w : Wd} {st : Sto} {a b : Addr} {vs us : List V} {ds es : List D}
theorem Ys.list (f : FzL K H (w.M st) a vs) (r : Reps K H (w.M st) vs ds) : Ys K (Itl K a) H w st ds := fun H' w' st' le ok i => by
  have f' := f.conv le
  have r' := r.conv le
  refine ⟨fun h => ⟨vs, f'.sq, by rw [r'.length]; exact h⟩, fun x hx => ?_⟩
  obtain ⟨v, hv, rv⟩ := r'.get hx
  refine ⟨⟨vs, v, f'.sq, hv⟩, fun u H2 ⟨e, hu⟩ => ?_⟩
  subst e
  have := hu vs f'.sq
  rw [hv] at this
  cases this
  exact ⟨Le.refl, ok, rv⟩
theorem FzT.conv {K : PySem.W.Frag} {H H' : Hp} {M M' : Addr → Prop} (c : ∀ a o, H a = some o → ¬ M a → H' a = some o ∧ ¬ M' a) {a : Addr} {xs : List V} (f : FzT K H M a xs) : FzT K H' M' a xs :=
  f.elim (fun ⟨z, m⟩ => .inl ⟨z.elim (fun z => .inl (c _ _ z m).1) fun ⟨o, z⟩ => .inr ⟨o, (c _ _ z m).1⟩, z.elim (fun z => (c _ _ z m).2) fun ⟨o, z⟩ => (c _ _ z m).2⟩) .inr
theorem Ys.tup (f : FzT K H (w.M st) a vs) (r : Reps K H (w.M st) vs ds) : Ys K (Itt K a) H w st ds := fun H' w' st' le ok i => by
  have f' := f.conv le
  have r' := r.conv le
  refine ⟨fun h => ⟨vs, f'.sq, by rw [r'.length]; exact h⟩, fun x hx => ?_⟩
  obtain ⟨v, hv, rv⟩ := r'.get hx
  refine ⟨⟨vs, v, f'.sq, hv⟩, fun u H2 ⟨e, hu⟩ => ?_⟩
  subst e
  have := hu vs f'.sq
  rw [hv] at this
  cases this
  exact ⟨Le.refl, ok, rv⟩
theorem Ys.range (lo : Int) (n : Nat) : Ys K (Itr lo n) H w st (upto lo n) := fun H' w' st' le ok i => by
  unfold upto
  refine ⟨fun h => ?_, fun x hx => ?_⟩
  · have h' : n ≤ i := by simpa using h
    exact h'
  rw [List.getElem?_map] at hx
  by_cases hi : i < n
  · rw [List.getElem?_range hi] at hx
    cases hx
    refine ⟨hi, fun v H2 ⟨e1, e2⟩ => ?_⟩
    subst e1 e2
    exact ⟨Le.refl, ok, .int _⟩
  · rw [List.getElem?_eq_none (by simpa using hi)] at hx
    cases hx
theorem Ys.enum (f : FzL K H (w.M st) a vs) (r : Reps K H (w.M st) vs ds) : Ys K (Ite K a) H w st (ds.mapIdx fun i x => .tuple [.int (i : Nat), x]) := fun H' w' st' le ok i => by
  have f' := f.conv le
  have r' := r.conv le
  refine ⟨fun h => ⟨vs, f'.sq, by rw [r'.length]; simpa using h⟩, fun x hx => ?_⟩
  rw [List.getElem?_mapIdx] at hx
  cases hd : ds[i]? with
  | none => rw [hd] at hx; cases hx
  | some d =>
    rw [hd] at hx
    cases hx
    obtain ⟨v, hv, rv⟩ := r'.get hd
    refine ⟨⟨vs, v, f'.sq, hv⟩, fun u H2 ⟨T, y, e1, n, e2, hu⟩ => ?_⟩
    subst e1 e2
    have := hu vs f'.sq
    rw [hv] at this
    cases this
    exact new_tup n ok (.cons (.int _) (.cons rv .nil))
theorem zip_get {α β γ : Type} {f : α → β → γ} {l : List α} {m : List β} {i : Nat} {x : γ} (h : (List.zipWith f l m)[i]? = some x) : ∃ a b, l[i]? = some a ∧ m[i]? = some b ∧ f a b = x := by
  rw [List.getElem?_zipWith] at h
  split at h
  · rename_i a b h1 h2
    cases h
    exact ⟨a, b, h1, h2, rfl⟩
  · cases h
theorem Ys.zip (f : FzL K H (w.M st) a vs) (r : Reps K H (w.M st) vs ds) (f2 : FzL K H (w.M st) b us) (r2 : Reps K H (w.M st) us es) : Ys K (Itz K a b) H w st (List.zipWith (fun x y => .tuple [x, y]) ds es) := fun H' w' st' le ok i => by
  have f' := f.conv le
  have r' := r.conv le
  have f2' := f2.conv le
  have r2' := r2.conv le
  refine ⟨fun h => ⟨vs, us, f'.sq, f2'.sq, ?_⟩, fun x hx => ?_⟩
  · rw [r'.length, r2'.length]
    rw [List.length_zipWith] at h
    omega
  · obtain ⟨d, e, h1, h2, h3⟩ := zip_get hx
    subst h3
    obtain ⟨v, hv, rv⟩ := r'.get h1
    obtain ⟨u, hu, ru⟩ := r2'.get h2
    refine ⟨⟨vs, us, v, u, f'.sq, f2'.sq, hv, hu⟩, fun z H2 ⟨T, y1, y2, e1, n, e2, g1, g2⟩ => ?_⟩
    subst e1 e2
    have q1 := g1 vs f'.sq
    rw [hv] at q1
    cases q1
    have q2 := g2 us f2'.sq
    rw [hu] at q2
    cases q2
    exact new_tup n ok (.cons rv (.cons ru .nil))
theorem Ys.zipT (f : FzT K H (w.M st) a vs) (r : Reps K H (w.M st) vs ds) (f2 : FzT K H (w.M st) b us) (r2 : Reps K H (w.M st) us es) : Ys K (RZ.ItzT K a b) H w st (List.zipWith (fun x y => .tuple [x, y]) ds es) := fun H' w' st' le ok i => by
  have f' := f.conv le
  have r' := r.conv le
  have f2' := f2.conv le
  have r2' := r2.conv le
  refine ⟨fun h => ⟨vs, us, f'.sq, f2'.sq, ?_⟩, fun x hx => ?_⟩
  · rw [r'.length, r2'.length]
    rw [List.length_zipWith] at h
    omega
  · obtain ⟨d, e, h1, h2, h3⟩ := zip_get hx
    subst h3
    obtain ⟨v, hv, rv⟩ := r'.get h1
    obtain ⟨u, hu, ru⟩ := r2'.get h2
    refine ⟨⟨vs, us, v, u, f'.sq, f2'.sq, hv, hu⟩, fun z H2 ⟨T, y1, y2, e1, n, e2, g1, g2⟩ => ?_⟩
    subst e1 e2
    have q1 := g1 vs f'.sq
    rw [hv] at q1
    cases q1
    have q2 := g2 us f2'.sq
    rw [hu] at q2
    cases q2
    exact new_tup n ok (.cons rv (.cons ru .nil))
end
/-- a list or a tuple, walked -/
theorem pi_seq {X : Cx} {tg l : Expr} {tl : TE} (hl : PE X l tl) : PI X tg l (fun σ H R => tl σ H fun x H1 => ∃ a, x = .ref a ∧ (((∃ xs, SqL X.K H1 a xs) ∧ R (Itl X.K a) H1) ∨ ((∃ xs, SqT X.K H1 a xs) ∧ R (Itt X.K a) H1))) := by
  refine ⟨fun pins s σ H R I h => ?_⟩
  refine thn (hl.run pins s σ H _ I h) fun v s1 ⟨x, H1, I1, r1, q1⟩ => ?_
  obtain ⟨a, e, q⟩ := q1
  subst e
  cases r1
  rcases q with ⟨⟨xs, hq⟩, q⟩ | ⟨⟨xs, hq⟩, q⟩
  · obtain ⟨its, rv, p, hz⟩ := I1.list hq
    refine wpAny_pyIter_list p.isList ?_
    refine ⟨s1.heap.objs.size, [s1.heap.objs.size], _, _, H1, rfl, I1.kept (t' := s1.toks) fun b o e => Heap.get?_push_of_some _ e, turn_list a _, ⟨_, Heap.get?_push_size _ rfl, rfl, rfl⟩, fun b hb => ?_, q⟩
    have e : b = s1.heap.objs.size := by simpa using hb
    subst e
    exact I1.fpOk (Nat.le_refl _) (I1.hok.fresh (Nat.le_refl _))
  · obtain ⟨its, rv, p, hz⟩ := I1.tuple hq
    refine wpAny_pyIter_tuple (show s1.heap.IsTuple a its.toArray from p) ?_
    refine ⟨s1.heap.objs.size, [s1.heap.objs.size], _, _, H1, rfl, I1.kept (t' := s1.toks) fun b o e => Heap.get?_push_of_some _ e, turn_tuple a _, ⟨_, Heap.get?_push_size _ rfl, rfl, rfl⟩, fun b hb => ?_, q⟩
    have e : b = s1.heap.objs.size := by simpa using hb
    subst e
    exact I1.fpOk (Nat.le_refl _) (I1.hok.fresh (Nat.le_refl _))
end VI

/-! VI9: the soundness of expressions. -/
namespace VI
open PySem PySem.Spec PyProof.Rows L2
structure Snd (tb : Tb) (ie : IE) : Prop where
  e : ∀ c X, CxOk tb c X → ∀ e, (ck ie c).e e = true → PE X e (TEs X.K tb ie)
  t : ∀ c X, CxOk tb c X → ∀ e, (ck ie c).t e = true → PT X e (TTs X.K tb ie)
  l : ∀ c X, CxOk tb c X → ∀ es, (ck ie c).l es = true → PA X es (TLs X.K tb ie es.length) ∧ (∀ env, (starEach es env).any (·.1) = false)
  i : ∀ c X, CxOk tb c X → ∀ tg it, (ck ie c).i tg it = true → PI X tg it (TIs X.K tb ie)
  g : ∀ c X, CxOk tb c X → ∀ e, (ck ie c).g e = true → PG X e (TGs1 X.K tb ie)
  gl : ∀ c X, CxOk tb c X → ∀ es, (ck ie c).gl es = true → PGs X es (TGsL X.K tb ie es.length) ∧ ∀ env, (assignEach es env).length = es.length ∧ (assignEach es env).findIdx? (·.1) = none
  o : ∀ c X, CxOk tb c X → ∀ o, (ck ie c).o o = true → PO X o (TOs X.K tb ie)
section
variable {tb : Tb} {ie : IE} {c : Ctx} {X : Cx}
theorem fT (cx : CxOk tb c X) {e : Expr} (he : PE X e (TEs X.K tb ie)) (hp : plainT e = true) (ht : ∀ env st k, (sem tb ie).t env st k = (sem tb ie).e env st fun ev st => truE ev st fun b => k b st) : PT X e (TTs X.K tb ie) :=
  PT.mono (pt_truth he (plainT_of hp)) fun σ H Q ⟨w, st, env, ok, er, h⟩ => by
    rw [ht] at h
    exact bE cx.mono ie ok er h fun ev st1 h1 v H1 w1 le1 ok1 r1 => let ⟨b, tv, q⟩ := tru_rep ok1 r1 h1; ⟨b, tv, q H1 w1 le1 ok1⟩
theorem fI (cx : CxOk tb c X) {tg e : Expr} (he : PE X e (TEs X.K tb ie)) (hi : ∀ env st k, (sem tb ie).i env st k = (sem tb ie).e env st fun ev st => match ev with
    | .d (.list xs) => k xs st
    | .d (.tuple xs) => k xs st
    | .sc xs => k xs st
    | _ => False) : PI X tg e (TIs X.K tb ie) :=
  PI.mono (pi_seq he) fun σ H R ⟨w, st, env, ok, er, h⟩ => by
    rw [hi] at h
    refine bE cx.mono ie ok er h fun ev st1 h1 v H1 w1 le1 ok1 r1 => ?_
    split at h1
    · cases (show Rep _ _ _ v _ from r1) with
      | lst f m r => exact ⟨_, rfl, .inl ⟨⟨_, SqL.of f⟩, h1 _ H1 w1 le1 ok1 (Ys.list (.inl ⟨.inl f, m⟩) r)⟩⟩
    · cases (show Rep _ _ _ v _ from r1) with
      | tup f r => exact ⟨_, rfl, .inr ⟨⟨_, f.sq⟩, h1 _ H1 w1 le1 ok1 (Ys.tup f r)⟩⟩
    · obtain ⟨a, xs, e, f, r⟩ := r1
      exact ⟨a, e, .inl ⟨⟨_, f.sq⟩, h1 _ H1 w1 le1 ok1 (Ys.list f r)⟩⟩
    · exact h1.elim
theorem fO (cx : CxOk tb c X) {e : Expr} (he : PE X e (TEs X.K tb ie)) (ho : ∀ env st k, (sem tb ie).o env st k = (sem tb ie).e env st fun ev st => match ev with
    | .d (.int n) => k (some n) st
    | _ => False) : PO X (some e) (TOs X.K tb ie) :=
  PO.mono (po_some he) fun σ H Q ⟨w, st, env, ok, er, h⟩ => by
    rw [ho] at h
    refine bE cx.mono ie ok er h fun ev st1 h1 v H1 w1 le1 ok1 r1 => ?_
    split at h1
    · cases (show Rep _ _ _ v _ from r1)
      exact ⟨_, rfl, h1 H1 w1 le1 ok1⟩
    · exact h1.elim
/-- the usual expression -/
theorem sndE {f : Ctx → Expr → Bool} (he : ∀ c X, CxOk tb c X → ∀ e, f c e = true → PE X e (TEs X.K tb ie)) (hc : ∀ c, ck ie c = ckE (f c))
    (ht : ∀ env st k, (sem tb ie).t env st k = (sem tb ie).e env st fun ev st => truE ev st fun b => k b st := by intros; rfl)
    (hi : ∀ env st k, (sem tb ie).i env st k = (sem tb ie).e env st fun ev st => match ev with
      | .d (.list xs) => k xs st
      | .d (.tuple xs) => k xs st
      | .sc xs => k xs st
      | _ => False := by intros; rfl)
    (ho : ∀ env st k, (sem tb ie).o env st k = (sem tb ie).e env st fun ev st => match ev with
      | .d (.int n) => k (some n) st
      | _ => False := by intros; rfl) : Snd tb ie where
  e := fun c X cx e h => he c X cx e (by rw [hc] at h; exact h)
  t := fun c X cx e h => by
    rw [hc] at h
    have h2 := Bool.and_eq_true_iff.mp (show (f c e && plainT e) = true from h)
    exact fT cx (he c X cx e h2.1) h2.2 ht
  l := fun c X cx es h => by
    rw [hc] at h
    exact absurd (show false = true from h) Bool.false_ne_true
  i := fun c X cx tg it h => by
    rw [hc] at h
    exact fI cx (he c X cx it h) hi
  g := fun c X cx es h => by
    rw [hc] at h
    exact absurd (show false = true from h) Bool.false_ne_true
  gl := fun c X cx es h => by
    rw [hc] at h
    exact absurd (show false = true from h) Bool.false_ne_true
  o := fun c X cx o h => by
    rw [hc] at h
    cases o with
    | none => exact absurd (show false = true from h) Bool.false_ne_true
    | some e => exact fO cx (he c X cx e h) ho
/-- what gives a truth -/
theorem sndB {f : Ctx → Expr → Bool} (he : ∀ c X, CxOk tb c X → ∀ e, f c e = true → PE X e (TEs X.K tb ie)) (ht : ∀ c X, CxOk tb c X → ∀ e, f c e = true → PT X e (TTs X.K tb ie)) (hc : ∀ c, ck ie c = ckB (f c)) : Snd tb ie where
  e := fun c X cx e h => he c X cx e (by rw [hc] at h; exact h)
  t := fun c X cx e h => ht c X cx e (by rw [hc] at h; exact h)
  l := fun c X cx es h => by
    rw [hc] at h
    exact absurd (show false = true from h) Bool.false_ne_true
  i := fun c X cx tg it h => by
    rw [hc] at h
    exact absurd (show false = true from h) Bool.false_ne_true
  g := fun c X cx es h => by
    rw [hc] at h
    exact absurd (show false = true from h) Bool.false_ne_true
  gl := fun c X cx es h => by
    rw [hc] at h
    exact absurd (show false = true from h) Bool.false_ne_true
  o := fun c X cx o h => by
    rw [hc] at h
    exact absurd (show false = true from h) Bool.false_ne_true
end
section
variable {tb : Tb}
theorem band {a b : Bool} (h : (a && b) = true) : a = true ∧ b = true := Bool.and_eq_true_iff.mp h
theorem snd_cst (d : D) : Snd tb (.cst d) := sndE (f := fun _ e => match d, e with
    | .int i, .Constant (.int j) _ _ => decide (i = j)
    | .bool b, .Constant (.bool c) _ _ => b == c
    | .str x, .Constant (.str y) _ _ => decide (x = y)
    | .none, .Constant .none _ _ => true
    | _, _ => false) (fun c X cx e h => by
  split at h
  · have e1 := of_decide_eq_true h
    subst e1
    exact PE.mono pe_int fun σ H Q ⟨w, st, env, ok, er, q⟩ => q _ H w Le.refl ok (Rep.int _)
  · have e1 := eq_of_beq h
    subst e1
    exact PE.mono pe_bl fun σ H Q ⟨w, st, env, ok, er, q⟩ => q _ H w Le.refl ok (Rep.bl _)
  · have e1 := of_decide_eq_true h
    subst e1
    exact PE.mono pe_str fun σ H Q ⟨w, st, env, ok, er, q⟩ => q _ H w Le.refl ok (Rep.str _)
  · exact PE.mono pe_non fun σ H Q ⟨w, st, env, ok, er, q⟩ => q _ H w Le.refl ok Rep.non
  · cases h) (fun _ => rfl)
theorem e_var {c : Ctx} {X : Cx} (cx : CxOk tb c X) {i : Nat} {e : Expr} (h : (match e with
      | .Name x _ => decide (c.N[i]? = some x) && (visB c.sc x && okNm x)
      | _ => false) = true) : PE X e (TEs X.K tb (.var i)) := by
  split at h
  · obtain ⟨h1, h2⟩ := band h
    obtain ⟨h2, h3⟩ := band h2
    obtain ⟨n1, n2, n3⟩ := okNm_of h3
    refine PE.mono (pe_var (by rw [cx.N]; exact of_decide_eq_true h1) (vis_of cx.sc h2) n1 n2) fun σ H Q ⟨w, st, env, ok, er, q⟩ => ?_
    have q : (match look env i with
      | some ev => PostW X.K H w st Q ev st
      | none => False) := q
    split at q
    · rename_i ev hl
      obtain ⟨v, hv, rv⟩ := er.look hl
      exact ⟨v, hv, q v H w Le.refl ok rv⟩
    · exact q.elim
  · cases h
theorem g_var {c : Ctx} {X : Cx} (cx : CxOk tb c X) {i : Nat} {e : Expr} (h : (match e with
        | .Name x _ => decide (c.N[i]? = some x) && (locB c.sc x && (c.fn x || isLoc c.sc x))
        | _ => false) = true) : PG X e (TGs1 X.K tb (.var i)) := by
  split at h
  · obtain ⟨h1, h2⟩ := band h
    obtain ⟨h2, h3⟩ := band h2
    have hf : X.fn _ = true ∨ X.env.scope.names.lookup _ = some .local := (Bool.or_eq_true_iff.mp h3).elim (fun z => .inl (cx.fn _ z)) fun z => .inr (isLoc_of cx.sc z)
    refine PG.mono (pg_name (i := i) cx.nd (by rw [cx.N]; exact of_decide_eq_true h1) (loc_of cx.sc h2) hf) fun v σ H Q ⟨w, st, env, ev, ok, er, r, q⟩ => ?_
    refine q _ (er.put r i) ⟨by rw [List.length_set], fun j hj => ?_⟩
    have : i ≠ j := fun z => hj (by rw [z]; exact List.mem_singleton.mpr rfl)
    rw [List.getElem?_set_ne this]
  · cases h
theorem snd_var (i : Nat) : Snd tb (.var i) where
  e := fun c X cx e h => e_var cx h
  t := fun c X cx e h => by
    have h2 := band (show ((ck (.var i) c).e e && plainT e) = true from h)
    exact fT cx (e_var cx h2.1) h2.2 fun _ _ _ => rfl
  l := fun c X cx es h => absurd (show false = true from h) Bool.false_ne_true
  i := fun c X cx tg it h => fI cx (e_var cx h) fun _ _ _ => rfl
  g := fun c X cx e h => g_var cx h
  gl := fun c X cx es h => absurd (show false = true from h) Bool.false_ne_true
  o := fun c X cx o h => by
    cases o with
    | none => exact absurd (show false = true from h) Bool.false_ne_true
    | some e => exact fO cx (e_var cx h) fun _ _ _ => rfl
theorem snd_glo (n : Nat) : Snd tb (.glo n) := sndE (f := fun c e => match e with
      | .Name x _ => decide (c.gls[n]? = some x) && (glB c.sc x && okNm x)
      | _ => false) (fun c X cx e h => by
  split at h
  · obtain ⟨h1, h2⟩ := band h
    obtain ⟨h2, h3⟩ := band h2
    obtain ⟨n1, n2, n3⟩ := okNm_of h3
    have h1 := of_decide_eq_true h1
    rw [cx.gls, List.getElem?_map] at h1
    cases hq : tb.gl[n]? with
    | none => rw [hq] at h1; cases h1
    | some q =>
      rw [hq] at h1
      cases h1
      obtain ⟨u, v, hm, rv, rp⟩ := cx.gk n q hq
      refine PE.mono (pe_glob (gl_of cx.sc h2) hm rv n1) fun σ H Q ⟨w, st, env, ok, er, z⟩ => ?_
      have z : (match tb.gl[n]? with
        | some q => PostW X.K H w st Q (.d q.2) st
        | none => False) := z
      rw [hq] at z
      exact z v H w Le.refl ok (rp H _)
  · cases h) (fun _ => rfl)
theorem snd_bin (o : BOp) {a b : IE} (ha : Snd tb a) (hb : Snd tb b) : Snd tb (.bin o a b) := sndE (f := fun c e => match e with
      | .BinOp l op r _ => decide (op = opA o) && ((ck a c).e l && (ck b c).e r)
      | _ => false) (fun c X cx e h => by
  split at h
  · obtain ⟨h1, h2⟩ := band h
    obtain ⟨h2, h3⟩ := band h2
    rw [of_decide_eq_true h1]
    refine PE.mono (pe_op (op_bin o) (ha.e c X cx _ h2) (hb.e c X cx _ h3)) fun σ H Q ⟨w, st, env, ok, er, h⟩ => ?_
    exact bE cx.mono a ok er h fun ex st1 h1 v1 H1 w1 le1 ok1 r1 => bE cx.mono b ok1 (er.le le1) h1 fun ey st2 h2 v2 H2 w2 le2 ok2 r2 =>
      ⟨w2, st2, ex, ey, ok2, r1.le le2, r2, binK_mono (fun z hz v H' le3 ok3 r3 => hz v H' w2 ((le1.trans le2).trans le3) ok3 r3) h2⟩
  · cases h) (fun _ => rfl)
theorem snd_neg {a : IE} (ha : Snd tb a) : Snd tb (.neg a) := sndE (f := fun c e => match e with
      | .UnaryOp .USub x _ => (ck a c).e x
      | _ => false) (fun c X cx e h => by
  split at h
  · refine PE.mono (pe_un un_neg (ha.e c X cx _ h)) fun σ H Q ⟨w, st, env, ok, er, h⟩ => ?_
    refine bE cx.mono a ok er h fun ex st1 h1 v1 H1 w1 le1 ok1 r1 => ?_
    split at h1
    · cases (show Rep _ _ _ v1 _ from r1)
      exact ⟨_, rfl, h1 _ H1 w1 le1 ok1 (Rep.int _)⟩
    · exact h1.elim
  · cases h) (fun _ => rfl)
theorem snd_nt {a : IE} (ha : Snd tb a) : Snd tb (.nt a) where
  e := fun c X cx e h => by
    have h : uNot _ e = true := h
    unfold uNot at h
    split at h
    · refine PE.mono (pe_notT (ha.e c X cx _ h)) fun σ H Q ⟨w, st, env, ok, er, h⟩ => ?_
      exact bE cx.mono a ok er h fun ex st1 h1 v1 H1 w1 le1 ok1 r1 => let ⟨b, tv, q⟩ := tru_rep ok1 r1 h1; ⟨b, tv, q _ H1 w1 le1 ok1 (Rep.bl _)⟩
    · cases h
  t := fun c X cx e h => by
    have h : uNot _ e = true := h
    unfold uNot at h
    split at h
    · refine PT.mono (pt_not (ha.t c X cx _ h)) fun σ H Q ⟨w, st, env, ok, er, h⟩ => ?_
      exact bT cx.mono a ok er h fun b st1 h1 H1 w1 le1 ok1 => h1 H1 w1 le1 ok1
    · cases h
  l := fun c X cx es h => absurd (show false = true from h) Bool.false_ne_true
  i := fun c X cx tg it h => absurd (show false = true from h) Bool.false_ne_true
  g := fun c X cx e h => absurd (show false = true from h) Bool.false_ne_true
  gl := fun c X cx es h => absurd (show false = true from h) Bool.false_ne_true
  o := fun c X cx o h => absurd (show false = true from h) Bool.false_ne_true
theorem snd_cmp (o : COp) {a b : IE} (ha : Snd tb a) (hb : Snd tb b) : Snd tb (.cmp o a b) := by
  have go : ∀ {c : Ctx} {X : Cx}, CxOk tb c X → ∀ {l r : Expr}, (ck a c).e l = true → (ck b c).e r = true → ∀ σ H Q, TEs X.K tb (.cmp o a b) σ H Q → tOp (rCmp X.K o) (TEs X.K tb a) (TEs X.K tb b) σ H Q := fun cx _ _ h1 h2 σ H Q ⟨w, st, env, ok, er, h⟩ =>
    bE cx.mono a ok er h fun ex st1 h1 v1 H1 w1 le1 ok1 r1 => bE cx.mono b ok1 (er.le le1) h1 fun ey st2 h2 v2 H2 w2 le2 ok2 r2 =>
      ⟨w2, st2, ex, ey, ok2, r1.le le2, r2, cmpK_mono (fun z hz => hz _ H2 w2 (le1.trans le2) ok2 (Rep.bl _)) h2⟩
  refine sndB (f := fun c e => match e with
      | .Compare l [op] [r] _ => decide (op = opC o) && ((ck a c).e l && ((ck b c).e r && notSet r))
      | _ => false) (fun c X cx e h => ?_) (fun c X cx e h => ?_) (fun _ => rfl)
  · split at h
    · obtain ⟨h1, h2⟩ := band h
      obtain ⟨h2, h3⟩ := band h2
      obtain ⟨h3, h4⟩ := band h3
      rw [of_decide_eq_true h1]
      exact PE.mono (pe_cmpR (op_cmp cx.xo o) (ha.e c X cx _ h2) (hb.e c X cx _ h3) (marks_of h4)) (go cx h2 h3)
    · cases h
  · split at h
    · obtain ⟨h1, h2⟩ := band h
      obtain ⟨h2, h3⟩ := band h2
      obtain ⟨h3, h4⟩ := band h3
      rw [of_decide_eq_true h1]
      refine PT.mono (pt_cmpR (op_cmp cx.xo o) (ha.e c X cx _ h2) (hb.e c X cx _ h3) (marks_of h4)) fun σ H Q ⟨w, st, env, ok, er, h⟩ => ?_
      exact bE cx.mono a ok er h fun ex st1 h1 v1 H1 w1 le1 ok1 r1 => bE cx.mono b ok1 (er.le le1) h1 fun ey st2 h2 v2 H2 w2 le2 ok2 r2 =>
        ⟨w2, st2, ex, ey, ok2, r1.le le2, r2, cmpK_mono (fun z hz => ⟨z, rfl, hz H2 w2 (le1.trans le2) ok2⟩) h2⟩
    · cases h
theorem snd_cmp2 (o p : COp) {a b d : IE} (ha : Snd tb a) (hb : Snd tb b) (hd : Snd tb d) : Snd tb (.cmp2 o p a b d) := by
  refine sndB (f := fun c e => match e with
      | .Compare l [op, op2] [m, r] _ => decide (op = opC o) && (decide (op2 = opC p) && ((ck a c).e l && ((ck b c).e m && ((ck d c).e r && notSet r))))
      | _ => false) (fun c X cx e h => ?_) (fun c X cx e h => ?_) (fun _ => rfl)
  · split at h
    · obtain ⟨h1, h2⟩ := band h
      obtain ⟨h2, h3⟩ := band h2
      obtain ⟨h3, h4⟩ := band h3
      obtain ⟨h4, h5⟩ := band h4
      obtain ⟨h5, h6⟩ := band h5
      rw [of_decide_eq_true h1, of_decide_eq_true h2]
      refine PE.mono (pe_chain (op_cmp cx.xo o) (op_cmp cx.xo p) (ha.e c X cx _ h3) (hb.e c X cx _ h4) (hd.e c X cx _ h5) (marks2_of h6)) fun σ H Q ⟨w, st, env, ok, er, h⟩ => ?_
      refine bE cx.mono a ok er h fun ex st1 h1 v1 H1 w1 le1 ok1 r1 => bE cx.mono b ok1 (er.le le1) h1 fun ey st2 h2 v2 H2 w2 le2 ok2 r2 =>
        ⟨w2, st2, ex, ey, ok2, r1.le le2, r2, cmpK_mono (fun z hz => ⟨z, rfl, ?_⟩) h2⟩
      cases z with
      | true =>
        have hz := brT' hz; simp only [if_true]
        exact bE cx.mono d ok2 (er.le (le1.trans le2)) hz fun ez st3 h3 v3 H3 w3 le3 ok3 r3 =>
          ⟨w3, st3, ey, ez, ok3, r2.le le3, r3, cmpK_mono (fun z hz => hz _ H3 w3 ((le1.trans le2).trans le3) ok3 (Rep.bl _)) h3⟩
      | false =>
        have hz := brF' hz; simp only [Bool.false_eq_true, if_false]
        exact hz _ H2 w2 (le1.trans le2) ok2 (Rep.bl _)
    · cases h
  · split at h
    · obtain ⟨h1, h2⟩ := band h
      obtain ⟨h2, h3⟩ := band h2
      obtain ⟨h3, h4⟩ := band h3
      obtain ⟨h4, h5⟩ := band h4
      obtain ⟨h5, h6⟩ := band h5
      rw [of_decide_eq_true h1, of_decide_eq_true h2]
      refine PT.mono (pt_chain (op_cmp cx.xo o) (op_cmp cx.xo p) (ha.e c X cx _ h3) (hb.e c X cx _ h4) (hd.e c X cx _ h5) (marks2_of h6)) fun σ H Q ⟨w, st, env, ok, er, h⟩ => ?_
      refine bE cx.mono a ok er h fun ex st1 h1 v1 H1 w1 le1 ok1 r1 => bE cx.mono b ok1 (er.le le1) h1 fun ey st2 h2 v2 H2 w2 le2 ok2 r2 =>
        ⟨w2, st2, ex, ey, ok2, r1.le le2, r2, cmpK_mono (fun z hz => ⟨z, rfl, ?_⟩) h2⟩
      cases z with
      | true =>
        have hz := brT' hz; simp only [if_true]
        exact bE cx.mono d ok2 (er.le (le1.trans le2)) hz fun ez st3 h3 v3 H3 w3 le3 ok3 r3 =>
          ⟨w3, st3, ey, ez, ok3, r2.le le3, r3, cmpK_mono (fun z hz => ⟨z, rfl, hz H3 w3 ((le1.trans le2).trans le3) ok3⟩) h3⟩
      | false =>
        have hz := brF' hz; simp only [Bool.false_eq_true, if_false]
        exact ⟨false, rfl, hz H2 w2 (le1.trans le2) ok2⟩
    · cases h
theorem isNon {K : PySem.W.Frag} {H : Hp} {M : Addr → Prop} {v : V} {d : D} (r : Rep K H M v d) : decide (v = V.non) = isNonD d := by
  cases r <;> first | rfl | simp [isNonD]
theorem notNon {K : PySem.W.Frag} {H : Hp} {M : Addr → Prop} {v : V} {d : D} (r : Rep K H M v d) : (!decide (v = V.non)) = !isNonD d := by
  cases r <;> first | rfl | simp [isNonD]
theorem snd_isN {a : IE} (ha : Snd tb a) : Snd tb (.isN a) := by
  refine sndB (f := fun c e => match e with
      | .Compare l [.Is] [.Constant .none _ _] _ => (ck a c).e l
      | _ => false) (fun c X cx e h => ?_) (fun c X cx e h => ?_) (fun _ => rfl)
  · split at h
    · refine PE.mono (pe_cmp (pc_isN (ha.e c X cx _ h)) rfl) fun σ H Q ⟨w, st, env, ok, er, h⟩ => ?_
      refine bE cx.mono a ok er h fun ex st1 h1 v1 H1 w1 le1 ok1 r1 => ?_
      obtain ⟨d, rd, q⟩ := dE_rep r1 h1
      rw [isNon rd]
      exact q _ H1 w1 le1 ok1 (Rep.bl _)
    · cases h
  · split at h
    · refine PT.mono (pt_cmp (pc_isN (ha.e c X cx _ h)) rfl) fun σ H Q ⟨w, st, env, ok, er, h⟩ => ?_
      refine bE cx.mono a ok er h fun ex st1 h1 v1 H1 w1 le1 ok1 r1 => ?_
      obtain ⟨d, rd, q⟩ := dE_rep r1 h1
      rw [isNon rd]
      exact ⟨_, rfl, q H1 w1 le1 ok1⟩
    · cases h
theorem snd_notN {a : IE} (ha : Snd tb a) : Snd tb (.notN a) := by
  refine sndB (f := fun c e => match e with
      | .Compare l [.IsNot] [.Constant .none _ _] _ => (ck a c).e l
      | _ => false) (fun c X cx e h => ?_) (fun c X cx e h => ?_) (fun _ => rfl)
  · split at h
    · refine PE.mono (pe_cmp (pc_notN (ha.e c X cx _ h)) rfl) fun σ H Q ⟨w, st, env, ok, er, h⟩ => ?_
      refine bE cx.mono a ok er h fun ex st1 h1 v1 H1 w1 le1 ok1 r1 => ?_
      obtain ⟨d, rd, q⟩ := dE_rep r1 h1
      rw [notNon rd]
      exact q _ H1 w1 le1 ok1 (Rep.bl _)
    · cases h
  · split at h
    · refine PT.mono (pt_cmp (pc_notN (ha.e c X cx _ h)) rfl) fun σ H Q ⟨w, st, env, ok, er, h⟩ => ?_
      refine bE cx.mono a ok er h fun ex st1 h1 v1 H1 w1 le1 ok1 r1 => ?_
      obtain ⟨d, rd, q⟩ := dE_rep r1 h1
      rw [notNon rd]
      exact ⟨_, rfl, q H1 w1 le1 ok1⟩
    · cases h
theorem PT.pw {X : Cx} {op : BoolOp} {vs : List Expr} {pos : Pos} {t : TT} (h : PT X (.BoolOp op vs pos) t) : PW X (.BoolOp op vs pos) t := ⟨fun wh pins s σ H Q I q => h.run pins s σ H Q I q⟩
theorem snd_an {a b : IE} (ha : Snd tb a) (hb : Snd tb b) : Snd tb (.an a b) := by
  have goe : ∀ {c : Ctx} {X : Cx}, CxOk tb c X → ∀ σ H Q, TEs X.K tb (.an a b) σ H Q → tAndV (TEs X.K tb a) (TEs X.K tb b) σ H Q := fun cx σ H Q ⟨w, st, env, ok, er, h⟩ =>
    bE cx.mono a ok er h fun ex st1 h1 v1 H1 w1 le1 ok1 r1 => by
      split at h1
      · rename_i c
        cases (show Rep _ _ _ v1 _ from r1)
        cases c with
        | true => exact ⟨true, rfl, by simp only [if_true]; exact bE cx.mono b ok1 (er.le le1) (brT' h1) fun ey st2 h2 v2 H2 w2 le2 ok2 r2 => h2 v2 H2 w2 (le1.trans le2) ok2 r2⟩
        | false => exact ⟨false, rfl, by simp only [Bool.false_eq_true, if_false]; exact (brF' h1) _ H1 w1 le1 ok1 (Rep.bl _)⟩
      · exact h1.elim
  have got : ∀ {c : Ctx} {X : Cx}, CxOk tb c X → ∀ σ H Q, TTs X.K tb (.an a b) σ H Q → tAnd (TTs X.K tb a) (TTs X.K tb b) σ H Q := fun cx σ H Q ⟨w, st, env, ok, er, h⟩ =>
    bT cx.mono a ok er h fun x st1 h1 H1 w1 le1 ok1 => by
      cases x with
      | true =>
        have h1 := brT' h1; simp only [if_true]
        exact bT cx.mono b ok1 (er.le le1) h1 fun y st2 h2 H2 w2 le2 ok2 => h2 H2 w2 (le1.trans le2) ok2
      | false =>
        have h1 := brF' h1; simp only [Bool.false_eq_true, if_false]
        exact h1 H1 w1 le1 ok1
  refine ⟨fun c X cx e h => ?_, fun c X cx e h => ?_, fun c X cx es h => absurd (show false = true from h) Bool.false_ne_true, fun c X cx tg it h => absurd (show false = true from h) Bool.false_ne_true, fun c X cx e h => absurd (show false = true from h) Bool.false_ne_true, fun c X cx es h => absurd (show false = true from h) Bool.false_ne_true, fun c X cx o h => absurd (show false = true from h) Bool.false_ne_true⟩
  · have h : bAnd _ _ e = true := h
    unfold bAnd at h
    split at h
    · obtain ⟨h1, h2⟩ := band h
      exact PE.mono (pe_and (ha.e c X cx _ h1) (pe_one (hb.e c X cx _ h2))) (goe cx)
    · obtain ⟨h1, h2⟩ := band h
      exact PE.mono (pe_and (ha.e c X cx _ h1) (hb.e c X cx _ h2)) (goe cx)
    · cases h
  · have h : bAnd _ _ e = true := h
    unfold bAnd at h
    split at h
    · obtain ⟨h1, h2⟩ := band h
      exact PT.mono (pw_and (ha.t c X cx _ h1) (pw_and1 (hb.t c X cx _ h2))).pt (got cx)
    · obtain ⟨h1, h2⟩ := band h
      exact PT.mono (pw_and (ha.t c X cx _ h1) (PT.pw (hb.t c X cx _ h2))).pt (got cx)
    · cases h
theorem snd_oo {a b : IE} (ha : Snd tb a) (hb : Snd tb b) : Snd tb (.oo a b) := by
  have goe : ∀ {c : Ctx} {X : Cx}, CxOk tb c X → ∀ σ H Q, TEs X.K tb (.oo a b) σ H Q → tOrV (TEs X.K tb a) (TEs X.K tb b) σ H Q := fun cx σ H Q ⟨w, st, env, ok, er, h⟩ =>
    bE cx.mono a ok er h fun ex st1 h1 v1 H1 w1 le1 ok1 r1 => by
      split at h1
      · rename_i c
        cases (show Rep _ _ _ v1 _ from r1)
        cases c with
        | true => exact ⟨true, rfl, by simp only [if_true]; exact (brT' h1) _ H1 w1 le1 ok1 (Rep.bl _)⟩
        | false => exact ⟨false, rfl, by simp only [Bool.false_eq_true, if_false]; exact bE cx.mono b ok1 (er.le le1) (brF' h1) fun ey st2 h2 v2 H2 w2 le2 ok2 r2 => h2 v2 H2 w2 (le1.trans le2) ok2 r2⟩
      · exact h1.elim
  have got : ∀ {c : Ctx} {X : Cx}, CxOk tb c X → ∀ σ H Q, TTs X.K tb (.oo a b) σ H Q → tOr (TTs X.K tb a) (TTs X.K tb b) σ H Q := fun cx σ H Q ⟨w, st, env, ok, er, h⟩ =>
    bT cx.mono a ok er h fun x st1 h1 H1 w1 le1 ok1 => by
      cases x with
      | true =>
        have h1 := brT' h1; simp only [if_true]
        exact h1 H1 w1 le1 ok1
      | false =>
        have h1 := brF' h1; simp only [Bool.false_eq_true, if_false]
        exact bT cx.mono b ok1 (er.le le1) h1 fun y st2 h2 H2 w2 le2 ok2 => h2 H2 w2 (le1.trans le2) ok2
  refine ⟨fun c X cx e h => ?_, fun c X cx e h => ?_, fun c X cx es h => absurd (show false = true from h) Bool.false_ne_true, fun c X cx tg it h => absurd (show false = true from h) Bool.false_ne_true, fun c X cx e h => absurd (show false = true from h) Bool.false_ne_true, fun c X cx es h => absurd (show false = true from h) Bool.false_ne_true, fun c X cx o h => absurd (show false = true from h) Bool.false_ne_true⟩
  · have h : bOr _ _ e = true := h
    unfold bOr at h
    split at h
    · obtain ⟨h1, h2⟩ := band h
      exact PE.mono (pe_or (ha.e c X cx _ h1) (pe_one (hb.e c X cx _ h2))) (goe cx)
    · obtain ⟨h1, h2⟩ := band h
      exact PE.mono (pe_or (ha.e c X cx _ h1) (hb.e c X cx _ h2)) (goe cx)
    · cases h
  · have h : bOr _ _ e = true := h
    unfold bOr at h
    split at h
    · obtain ⟨h1, h2⟩ := band h
      exact PT.mono (pw_or (ha.t c X cx _ h1) (pw_or1 (hb.t c X cx _ h2))).pt (got cx)
    · obtain ⟨h1, h2⟩ := band h
      exact PT.mono (pw_or (ha.t c X cx _ h1) (PT.pw (hb.t c X cx _ h2))).pt (got cx)
    · cases h
theorem snd_ife {t a b : IE} (hc : Snd tb t) (ha : Snd tb a) (hb : Snd tb b) : Snd tb (.ife t a b) := sndE (f := fun c e => match e with
      | .IfExp q x y _ => (ck t c).t q && ((ck a c).e x && (ck b c).e y)
      | _ => false) (fun c X cx e h => by
  split at h
  · obtain ⟨h1, h2⟩ := band h
    obtain ⟨h2, h3⟩ := band h2
    refine PE.mono (pe_ifExp (hc.t c X cx _ h1) (ha.e c X cx _ h2) (hb.e c X cx _ h3)) fun σ H Q ⟨w, st, env, ok, er, h⟩ => ?_
    refine bT cx.mono t ok er h fun x st1 h1 H1 w1 le1 ok1 => ?_
    cases x with
    | true =>
      have h1 := brT' h1; simp only [if_true]
      exact bE cx.mono a ok1 (er.le le1) h1 fun y st2 h2 v2 H2 w2 le2 ok2 r2 => h2 v2 H2 w2 (le1.trans le2) ok2 r2
    | false =>
      have h1 := brF' h1; simp only [Bool.false_eq_true, if_false]
      exact bE cx.mono b ok1 (er.le le1) h1 fun y st2 h2 v2 H2 w2 le2 ok2 r2 => h2 v2 H2 w2 (le1.trans le2) ok2 r2
  · cases h) (fun _ => rfl)
end
end VI

/-! VI10: the soundness of expressions: lists, displays, subscripts, calls, comprehensions. -/
namespace VI
open PySem PySem.Spec PyProof.Rows L2
section
variable {tb : Tb}
theorem ff {p : Prop} (h : false = true) : p := absurd h Bool.false_ne_true
theorem asg_of {e : Expr} {es : List Expr} {env : Env} (h : notStar e = true) : assignEach (e :: es) env = (false, assign e env) :: assignEach es env := by
  cases e <;> first | rfl | cases h
theorem snd_nil : Snd tb .nil where
  e := fun c X cx e h => ff h
  t := fun c X cx e h => ff h
  l := fun c X cx es h => by
    have h : es.isEmpty = true := h
    cases es with
    | nil => exact ⟨PA.mono pa_nil fun σ H Q ⟨w, st, env, ok, er, h⟩ => h [] H w Le.refl ok .nil rfl, fun _ => rfl⟩
    | cons _ _ => cases h
  i := fun c X cx tg it h => ff h
  g := fun c X cx e h => ff h
  gl := fun c X cx es h => by
    have h : es.isEmpty = true := h
    cases es with
    | nil =>
      refine ⟨⟨fun pins s σ H vs u Q I r h => ?_⟩, fun _ => ⟨rfl, rfl⟩⟩
      obtain ⟨w, st, env, ds, ok, er, rs, hl, e, q⟩ := h
      refine pgs_nil.run pins s σ H vs u Q I r ⟨?_, q σ er Chg.refl⟩
      exact List.length_eq_zero_iff.mp hl
    | cons _ _ => cases h
  o := fun c X cx o h => by
    have h : o.isNone = true := h
    cases o with
    | none => exact PO.mono po_none fun σ H Q ⟨w, st, env, ok, er, h⟩ => h H w Le.refl ok
    | some _ => cases h
theorem PGs.mono {X : Cx} {e : List Expr} {t t' : L2.TGs} (h : PGs X e t) (m : ∀ v σ H Q, t' v σ H Q → t v σ H Q) : PGs X e t' := ⟨fun pins s σ H v u Q I r q => h.run pins s σ H v u Q I r (m v σ H Q q)⟩
theorem snd_cons {a r : IE} (ha : Snd tb a) (hr : Snd tb r) : Snd tb (.cons a r) where
  e := fun c X cx e h => ff h
  t := fun c X cx e h => ff h
  l := fun c X cx es h => by
    cases es with
    | nil => exact ff h
    | cons e es =>
      have h : (notStar e && ((ck a c).e e && (ck r c).l es)) = true := h
      obtain ⟨h1, h2⟩ := band h
      obtain ⟨h2, h3⟩ := band h2
      obtain ⟨p1, p2⟩ := hr.l c X cx es h3
      refine ⟨PA.mono (pa_cons (ha.e c X cx e h2) p1 (star_of h1)) fun σ H Q ⟨w, st, env, ok, er, h⟩ => ?_, fun env => ?_⟩
      · exact bE cx.mono a ok er h fun ev st1 h1 v H1 w1 le1 ok1 r1 => bL cx.mono r ok1 (er.le le1) h1 fun evs st2 h2 vs H2 w2 le2 ok2 r2 hl =>
          h2 (v :: vs) H2 w2 (le1.trans le2) ok2 (.cons (r1.le le2) r2) (by rw [List.length_cons, List.length_cons, hl])
      · rw [star_of h1, List.any_cons, p2 env]
        rfl
  i := fun c X cx tg it h => ff h
  g := fun c X cx e h => ff h
  gl := fun c X cx es h => by
    cases es with
    | nil => exact ff h
    | cons e es =>
      have h : (notStar e && ((ck a c).g e && (ck r c).gl es)) = true := h
      obtain ⟨h1, h2⟩ := band h
      obtain ⟨h2, h3⟩ := band h2
      obtain ⟨p1, p2⟩ := hr.gl c X cx es h3
      refine ⟨PGs.mono (pgs_cons (ha.g c X cx e h2) p1 (by rw [asg_of h1]; rfl)) fun vs σ H Q ⟨w, st, env, ds, ok, er, rs, hl, h⟩ => ?_, fun env => ?_⟩
      · cases rs with
        | nil => exact h.elim
        | cons r0 rs =>
          refine ⟨_, _, rfl, w, st, env, .d _, ok, er, r0, (sem_mono cx.mono a).a _ _ _ _ (fun env' h σ' er' ch => ?_) h⟩
          exact ⟨w, st, env', _, ok, er', rs, by simpa using hl, (sem_mono cx.mono r).al _ _ _ _ (fun env2 h σ2 er2 ch2 => h σ2 er2 (ch.trans ch2)) h⟩
      · rw [asg_of h1]
        obtain ⟨q1, q2⟩ := p2 env
        refine ⟨by rw [List.length_cons, List.length_cons, q1], ?_⟩
        rw [List.findIdx?_cons]
        simp only [Bool.false_eq_true, if_false]
        rw [q2]
        rfl
  o := fun c X cx o h => ff h
/-! ### stores reach their end -/
theorem tup_a {r : IE} {ev : EV} {env : En} {k : En → Prop} (h : (sem tb (.tup r)).a ev env k) : ∃ xs, (ev = .d (.tuple xs) ∨ ev = .d (.list xs)) ∧ (sem tb r).al xs env k := by
  cases ev with
  | d x =>
    cases x with
    | tuple xs => exact ⟨xs, .inl rfl, h⟩
    | list xs => exact ⟨xs, .inr rfl, h⟩
    | _ => exact h.elim
  | _ => exact h.elim
theorem strict (tb : Tb) : ∀ ie : IE, (∀ ev env k, (sem tb ie).a ev env k → ∃ env', k env') ∧ ∀ ds env k, (sem tb ie).al ds env k → ∃ env', k env'
  | .var i => ⟨fun ev env k h => ⟨_, h⟩, fun _ _ _ h => h.elim⟩
  | .nil => ⟨fun _ _ _ h => h.elim, fun ds env k h => ⟨_, h.2⟩⟩
  | .cons a r => ⟨fun _ _ _ h => h.elim, fun ds env k h => by
    cases ds with
    | nil => exact h.elim
    | cons d ds =>
      obtain ⟨e1, h1⟩ := (strict tb a).1 _ _ _ h
      exact (strict tb r).2 _ _ _ h1⟩
  | .tup r => ⟨fun ev env k h => by
    obtain ⟨xs, _, h⟩ := tup_a h
    exact (strict tb r).2 _ _ _ h, fun _ _ _ h => h.elim⟩
  | .cst _ => ⟨fun _ _ _ h => h.elim, fun _ _ _ h => h.elim⟩
  | .glo _ => ⟨fun _ _ _ h => h.elim, fun _ _ _ h => h.elim⟩
  | .bin _ _ _ => ⟨fun _ _ _ h => h.elim, fun _ _ _ h => h.elim⟩
  | .neg _ => ⟨fun _ _ _ h => h.elim, fun _ _ _ h => h.elim⟩
  | .nt _ => ⟨fun _ _ _ h => h.elim, fun _ _ _ h => h.elim⟩
  | .cmp _ _ _ => ⟨fun _ _ _ h => h.elim, fun _ _ _ h => h.elim⟩
  | .cmp2 _ _ _ _ _ => ⟨fun _ _ _ h => h.elim, fun _ _ _ h => h.elim⟩
  | .isN _ => ⟨fun _ _ _ h => h.elim, fun _ _ _ h => h.elim⟩
  | .notN _ => ⟨fun _ _ _ h => h.elim, fun _ _ _ h => h.elim⟩
  | .an _ _ => ⟨fun _ _ _ h => h.elim, fun _ _ _ h => h.elim⟩
  | .oo _ _ => ⟨fun _ _ _ h => h.elim, fun _ _ _ h => h.elim⟩
  | .ife _ _ _ => ⟨fun _ _ _ h => h.elim, fun _ _ _ h => h.elim⟩
  | .lst _ _ => ⟨fun _ _ _ h => h.elim, fun _ _ _ h => h.elim⟩
  | .ixc _ _ => ⟨fun _ _ _ h => h.elim, fun _ _ _ h => h.elim⟩
  | .ix _ _ => ⟨fun _ _ _ h => h.elim, fun _ _ _ h => h.elim⟩
  | .sl _ _ _ _ => ⟨fun _ _ _ h => h.elim, fun _ _ _ h => h.elim⟩
  | .call _ _ => ⟨fun _ _ _ h => h.elim, fun _ _ _ h => h.elim⟩
  | .blt _ _ _ => ⟨fun _ _ _ h => h.elim, fun _ _ _ h => h.elim⟩
  | .cmpr _ _ _ _ _ _ => ⟨fun _ _ _ h => h.elim, fun _ _ _ h => h.elim⟩
  | .rng _ => ⟨fun _ _ _ h => h.elim, fun _ _ _ h => h.elim⟩
  | .enm _ => ⟨fun _ _ _ h => h.elim, fun _ _ _ h => h.elim⟩
  | .zp _ => ⟨fun _ _ _ h => h.elim, fun _ _ _ h => h.elim⟩
  | .isi _ _ => ⟨fun _ _ _ h => h.elim, fun _ _ _ h => h.elim⟩
  | .scons _ _ => ⟨fun _ _ _ h => h.elim, fun _ _ _ h => h.elim⟩
  | .tupS _ => ⟨fun _ _ _ h => h.elim, fun _ _ _ h => h.elim⟩
  | .lstS _ _ => ⟨fun _ _ _ h => h.elim, fun _ _ _ h => h.elim⟩
  | .srs _ _ => ⟨fun _ _ _ h => h.elim, fun _ _ _ h => h.elim⟩
  | .srl _ _ => ⟨fun _ _ _ h => h.elim, fun _ _ _ h => h.elim⟩
  | .lop _ _ _ _ => ⟨fun _ _ _ h => h.elim, fun _ _ _ h => h.elim⟩
  | .idx _ _ => ⟨fun _ _ _ h => h.elim, fun _ _ _ h => h.elim⟩
  | .dget _ _ _ => ⟨fun _ _ _ h => h.elim, fun _ _ _ h => h.elim⟩
  | .callS _ _ _ => ⟨fun _ _ _ h => h.elim, fun _ _ _ h => h.elim⟩
  | .cmpr2 _ _ _ _ _ _ _ _ _ => ⟨fun _ _ _ h => h.elim, fun _ _ _ h => h.elim⟩
  | .isB _ _ _ => ⟨fun _ _ _ h => h.elim, fun _ _ _ h => h.elim⟩
  | .sri _ _ => ⟨fun _ _ _ h => h.elim, fun _ _ _ h => h.elim⟩
  | .ssi _ _ => ⟨fun _ _ _ h => h.elim, fun _ _ _ h => h.elim⟩
  | .rgv _ _ _ => ⟨fun _ _ _ h => h.elim, fun _ _ _ h => h.elim⟩
theorem al_len {c : Ctx} : ∀ {r : IE} {es : List Expr} {ds : List D} {env : En} {k : En → Prop}, (ck r c).gl es = true → (sem tb r).al ds env k → ds.length = es.length
  | .nil, es, ds, env, k, h, q => by
    have h : es.isEmpty = true := h
    rw [q.1, List.isEmpty_iff.mp h]
    rfl
  | .cons a r, es, ds, env, k, h, q => by
    cases es with
    | nil => exact ff h
    | cons e es =>
      have h : (notStar e && ((ck a c).g e && (ck r c).gl es)) = true := h
      have h3 := (band (band h).2).2
      cases ds with
      | nil => exact q.elim
      | cons d ds =>
        obtain ⟨env', q⟩ := (strict tb a).1 _ _ _ q
        rw [List.length_cons, List.length_cons, al_len h3 q]
  | .var _, _, _, _, _, h, _ => ff h
  | .tup _, _, _, _, _, h, _ => ff h
  | .cst _, _, _, _, _, h, _ => ff h
  | .glo _, _, _, _, _, h, _ => ff h
  | .bin _ _ _, _, _, _, _, h, _ => ff h
  | .neg _, _, _, _, _, h, _ => ff h
  | .nt _, _, _, _, _, h, _ => ff h
  | .cmp _ _ _, _, _, _, _, h, _ => ff h
  | .cmp2 _ _ _ _ _, _, _, _, _, h, _ => ff h
  | .isN _, _, _, _, _, h, _ => ff h
  | .notN _, _, _, _, _, h, _ => ff h
  | .an _ _, _, _, _, _, h, _ => ff h
  | .oo _ _, _, _, _, _, h, _ => ff h
  | .ife _ _ _, _, _, _, _, h, _ => ff h
  | .lst _ _, _, _, _, _, h, _ => ff h
  | .ixc _ _, _, _, _, _, h, _ => ff h
  | .ix _ _, _, _, _, _, h, _ => ff h
  | .sl _ _ _ _, _, _, _, _, h, _ => ff h
  | .call _ _, _, _, _, _, h, _ => ff h
  | .blt _ _ _, _, _, _, _, h, _ => ff h
  | .cmpr _ _ _ _ _ _, _, _, _, _, h, _ => ff h
  | .rng _, _, _, _, _, h, _ => ff h
  | .enm _, _, _, _, _, h, _ => ff h
  | .zp _, _, _, _, _, h, _ => ff h
  | .isi _ _, _, _, _, _, h, _ => ff h
  | .scons _ _, _, _, _, _, h, _ => ff h
  | .tupS _, _, _, _, _, h, _ => ff h
  | .lstS _ _, _, _, _, _, h, _ => ff h
  | .srs _ _, _, _, _, _, h, _ => ff h
  | .srl _ _, _, _, _, _, h, _ => ff h
  | .lop _ _ _ _, _, _, _, _, h, _ => ff h
  | .idx _ _, _, _, _, _, h, _ => ff h
  | .dget _ _ _, _, _, _, _, h, _ => ff h
theorem l_cons {c : Ctx} {e : Expr} {es : List Expr} : ∀ {r : IE}, (ck r c).l (e :: es) = true → ∃ a r', r = .cons a r' ∧ notStar e = true ∧ (ck a c).e e = true ∧ (ck r' c).l es = true
  | .nil, h => ff h
  | .cons a r, h => by
    have h : (notStar e && ((ck a c).e e && (ck r c).l es)) = true := h
    exact ⟨a, r, rfl, (band h).1, (band (band h).2).1, (band (band h).2).2⟩
  | .var _, h => ff h
  | .tup _, h => ff h
  | .cst _, h => ff h
  | .glo _, h => ff h
  | .bin _ _ _, h => ff h
  | .neg _, h => ff h
  | .nt _, h => ff h
  | .cmp _ _ _, h => ff h
  | .cmp2 _ _ _ _ _, h => ff h
  | .isN _, h => ff h
  | .notN _, h => ff h
  | .an _ _, h => ff h
  | .oo _ _, h => ff h
  | .ife _ _ _, h => ff h
  | .lst _ _, h => ff h
  | .ixc _ _, h => ff h
  | .ix _ _, h => ff h
  | .sl _ _ _ _, h => ff h
  | .call _ _, h => ff h
  | .blt _ _ _, h => ff h
  | .cmpr _ _ _ _ _ _, h => ff h
  | .rng _, h => ff h
  | .enm _, h => ff h
  | .zp _, h => ff h
  | .isi _ _, h => ff h
  | .scons _ _, h => ff h
  | .tupS _, h => ff h
  | .lstS _ _, h => ff h
  | .srs _ _, h => ff h
  | .srl _ _, h => ff h
  | .lop _ _ _ _, h => ff h
  | .idx _ _, h => ff h
  | .dget _ _ _, h => ff h
theorem l_nil {c : Ctx} : ∀ {r : IE}, (ck r c).l [] = true → r = .nil
  | .nil, h => rfl
  | .cons a r, h => ff h
  | .var _, h => ff h
  | .tup _, h => ff h
  | .cst _, h => ff h
  | .glo _, h => ff h
  | .bin _ _ _, h => ff h
  | .neg _, h => ff h
  | .nt _, h => ff h
  | .cmp _ _ _, h => ff h
  | .cmp2 _ _ _ _ _, h => ff h
  | .isN _, h => ff h
  | .notN _, h => ff h
  | .an _ _, h => ff h
  | .oo _ _, h => ff h
  | .ife _ _ _, h => ff h
  | .lst _ _, h => ff h
  | .ixc _ _, h => ff h
  | .ix _ _, h => ff h
  | .sl _ _ _ _, h => ff h
  | .call _ _, h => ff h
  | .blt _ _ _, h => ff h
  | .cmpr _ _ _ _ _ _, h => ff h
  | .rng _, h => ff h
  | .enm _, h => ff h
  | .zp _, h => ff h
  | .isi _ _, h => ff h
  | .scons _ _, h => ff h
  | .tupS _, h => ff h
  | .lstS _ _, h => ff h
  | .srs _ _, h => ff h
  | .srl _ _, h => ff h
  | .lop _ _ _ _, h => ff h
  | .idx _ _, h => ff h
  | .dget _ _ _, h => ff h
/-! ### displays -/
theorem line1k {n : Nat} (h : n ≤ 1000) : n ≤ sizeLine := by
  rw [sizeLine_eq]; omega
theorem e_tup {r : IE} (hr : Snd tb r) {c : Ctx} {X : Cx} (cx : CxOk tb c X) {e : Expr} (h : (match e with
      | .Tuple es _ _ => decide (es.length ≤ 1000) && (ck r c).l es
      | _ => false) = true) : PE X e (TEs X.K tb (.tup r)) := by
  split at h
  · obtain ⟨h1, h2⟩ := band h
    refine PE.mono (pe_tup (hr.l c X cx _ h2).1) fun σ H Q ⟨w, st, env, ok, er, h⟩ => ?_
    refine bL cx.mono r ok er h fun evs st1 q vs H1 w1 le1 ok1 r1 hl => ?_
    obtain ⟨ds, rs, q⟩ := allD_rep r1 q
    refine ⟨line1k (by rw [hl]; exact of_decide_eq_true h1), fun p n => ?_⟩
    obtain ⟨a, b, d⟩ := new_tup n ok1 rs
    exact q _ _ w1 (le1.trans a) b d
  · cases h
theorem pg_seq2 {X : Cx} {pos : Pos} {es : List Expr} {k : Nat} {t : TGs} {n : Nat} (hc : X.calm = true) (h : PGs X es t)
    (hn : (assignEach es X.env).length = n) (hst : (assignEach es X.env).findIdx? (·.1) = none) : PG X (.Tuple es k pos) (fun v σ H Q => gTup X.K n t v σ H Q ∨ gLst X.K n t v σ H Q) :=
  ⟨fun pins s σ H v u Q I r hw => hw.elim (fun z => (pg_tup hc h hn hst).run pins s σ H v u Q I r z) fun z => (pg_lst hc h hn hst).run pins s σ H v u Q I r z⟩
theorem g_tup {r : IE} (hr : Snd tb r) {c : Ctx} {X : Cx} (cx : CxOk tb c X) {e : Expr} (h : (match e with
        | .Tuple es _ _ => (ck r c).gl es
        | _ => false) = true) : PG X e (TGs1 X.K tb (.tup r)) := by
  split at h
  · obtain ⟨p1, p2⟩ := hr.gl c X cx _ h
    refine PG.mono (pg_seq2 cx.xo.calm p1 (p2 _).1 (p2 _).2) fun v σ H Q ⟨w, st, env, ev, ok, er, r0, q⟩ => ?_
    obtain ⟨xs, rfl | rfl, q⟩ := tup_a q
    · cases (show Rep _ _ _ v _ from r0) with
      | tup f rs =>
        have hl := al_len h q
        exact .inl ⟨_, _, rfl, f.sq, by rw [rs.length]; exact hl, w, st, env, _, ok, er, rs, by rw [rs.length]; exact hl, q⟩
    · cases (show Rep _ _ _ v _ from r0) with
      | lst f m rs =>
        have hl := al_len h q
        exact .inr ⟨_, _, rfl, .inl (.inl f), by rw [rs.length]; exact hl, w, st, env, _, ok, er, rs, by rw [rs.length]; exact hl, q⟩
  · cases h
theorem snd_tup {r : IE} (hr : Snd tb r) : Snd tb (.tup r) where
  e := fun c X cx e h => e_tup hr cx h
  t := fun c X cx e h => by
    have h2 := band (show ((ck (.tup r) c).e e && plainT e) = true from h)
    exact fT cx (e_tup hr cx h2.1) h2.2 fun _ _ _ => rfl
  l := fun c X cx es h => ff h
  i := fun c X cx tg it h => fI cx (e_tup hr cx h) fun _ _ _ => rfl
  g := fun c X cx e h => g_tup hr cx h
  gl := fun c X cx es h => ff h
  o := fun c X cx o h => by
    cases o with
    | none => exact ff h
    | some e => exact fO cx (e_tup hr cx h) fun _ _ _ => rfl
theorem snd_lst (kd : Nat) {r : IE} (hr : Snd tb r) : Snd tb (.lst kd r) := sndE (f := fun c e => match e with
      | .List es _ => decide (es.length ≤ 1000) && (ck r c).l es
      | _ => false) (fun c X cx e h => by
  split at h
  · obtain ⟨h1, h2⟩ := band h
    refine PE.mono (pe_lst (hr.l c X cx _ h2).1) fun σ H Q ⟨w, st, env, ok, er, h⟩ => ?_
    refine bL cx.mono r ok er h fun evs st1 q vs H1 w1 le1 ok1 r1 hl => ?_
    obtain ⟨ds, rs, q⟩ := allD_rep r1 q
    refine ⟨line1k (by rw [hl]; exact of_decide_eq_true h1), fun p n => ?_⟩
    obtain ⟨ev, w', st', a, b, d, q⟩ := new_lst n ok1 rs q
    exact q _ _ w' (le1.trans a) b d
  · cases h) (fun _ => rfl)
/-! ### subscripts -/
theorem ix_rep {K : PySem.W.Frag} {H H' : Hp} {w : Wd} {st : Sto} {v : V} {ev : EV} {n : Int} {Q : VK} (ok : WOk K H w st) (r : EVRep K H w st v ev) {k : D → Prop} (h : seqE ev st fun _ xs => match L2.atI xs n with
      | some y => k y
      | none => False) (c : ∀ x y, k y → Rep K H (w.M st) x y → Q x H) : rIx K v (.int n) H Q := by
  obtain ⟨b, ds, a, xs, rfl, h1, h2, h3, h4⟩ := seq_rep ok r h
  split at h4
  · rename_i y e
    have e0 := e
    unfold atI at e0
    cases ej : ixN ds.length n with
    | none => rw [ej] at e0; cases e0
    | some j =>
      rw [ej] at e0
      have e0 : ds[j]? = some y := e0
      obtain ⟨u, hu, ru⟩ := h3.get e0
      have ea : atI xs n = some u := by
        unfold atI
        rw [h3.length, ej]
        exact hu
      cases b with
      | true => exact .inl ⟨a, xs, n, u, rfl, rfl, h1 rfl, ea, c u y h4 ru⟩
      | false => exact .inr (.inl ⟨a, xs, n, u, rfl, rfl, (h2 rfl).1, ea, c u y h4 ru⟩)
  · exact h4.elim
theorem snd_ixc {a : IE} (n : Nat) (ha : Snd tb a) : Snd tb (.ixc a n) := sndE (f := fun c e => match e with
      | .Subscript x (.Constant (.int j) _ _) _ => decide (j = (n : Nat)) && (ck a c).e x
      | _ => false) (fun c X cx e h => by
  split at h
  · obtain ⟨h1, h2⟩ := band h
    have h1 := of_decide_eq_true h1
    subst h1
    refine PE.mono (pe_ix ix_seq (ha.e c X cx _ h2) pe_int (plainIx_of rfl)) fun σ H Q ⟨w, st, env, ok, er, h⟩ => ?_
    refine bE cx.mono a ok er h fun ev st1 h1 v H1 w1 le1 ok1 r1 => ?_
    refine ix_rep (H' := H1) (k := fun y => PostW X.K H w st Q (.d y) st1) ok1 r1 (seqE_mono (fun b xs q => ?_) h1) fun x y k r => k x H1 w1 le1 ok1 r
    split at q
    · rename_i e
      rw [atI_nat e]
      exact q
    · exact q.elim
  · cases h) (fun _ => rfl)
theorem snd_ix {a i : IE} (ha : Snd tb a) (hi : Snd tb i) : Snd tb (.ix a i) := sndE (f := fun c e => match e with
      | .Subscript x y _ => notSlice y && ((ck a c).e x && (ck i c).e y)
      | _ => false) (fun c X cx e h => by
  split at h
  · obtain ⟨h1, h2⟩ := band h
    obtain ⟨h2, h3⟩ := band h2
    refine PE.mono (pe_ix ix_seq (ha.e c X cx _ h2) (hi.e c X cx _ h3) (plainIx_of h1)) fun σ H Q ⟨w, st, env, ok, er, h⟩ => ?_
    refine bE cx.mono a ok er h fun ev st1 h1 v H1 w1 le1 ok1 r1 => bE cx.mono i ok1 (er.le le1) h1 fun ej st2 h2 v2 H2 w2 le2 ok2 r2 => ?_
    split at h2
    · cases (show Rep _ _ _ v2 _ from r2)
      exact ix_rep (H' := H2) (k := fun y => PostW X.K H w st Q (.d y) st2) ok2 (r1.le le2) (seqE_mono (fun b xs q => q) h2) fun x y k r => k x H2 w2 (le1.trans le2) ok2 r
    · exact h2.elim
  · cases h) (fun _ => rfl)
theorem snd_sl (kd : Nat) {a lo hi : IE} (ha : Snd tb a) (hl : Snd tb lo) (hh : Snd tb hi) : Snd tb (.sl kd a lo hi) := sndE (f := fun c e => match e with
      | .Subscript x (.Slice l h none _) _ => (ck a c).e x && ((ck lo c).o l && (ck hi c).o h)
      | _ => false) (fun c X cx e h => by
  split at h
  · obtain ⟨h1, h2⟩ := band h
    obtain ⟨h2, h3⟩ := band h2
    refine PE.mono (pe_slice (sl_list.or (sl_tupA.or sl_str)) (ha.e c X cx _ h1) (hl.o c X cx _ h2) (hh.o c X cx _ h3)) fun σ H Q ⟨w, st, env, ok, er, h⟩ => ?_
    refine bE cx.mono a ok er h fun ev st1 h1 v H1 w1 le1 ok1 r1 => bO cx.mono lo ok1 (er.le le1) h1 fun l st2 h2 H2 w2 le2 ok2 => bO cx.mono hi ok2 (er.le (le1.trans le2)) h2 fun u st3 h3 H3 w3 le3 ok3 => ?_
    have le := (le1.trans le2).trans le3
    have r3 := r1.le (le2.trans le3)
    have lst : seqE ev st3 (fun _ xs => newL kd (cutD xs l u) st3 (PostW X.K H w st Q)) → (∀ xs, ev ≠ .d (.tuple xs)) → rSlL X.K v l u H3 Q := fun h nt => by
      obtain ⟨b, ds, a, xs, rfl, g1, g2, g3, g4⟩ := seq_rep ok3 r3 h
      have hb : b = true := by
        cases b with
        | true => rfl
        | false => exact absurd (g2 rfl).2 (nt _)
      refine ⟨a, xs, rfl, g1 hb, fun p n => ?_⟩
      obtain ⟨ev', w', st', x, y, z, q⟩ := new_lst n ok3 (g3.cut l u) g4
      exact q _ _ w' (le.trans x) y z
    split at h3
    · cases (show Rep _ _ _ v _ from r3) with
      | tup f rs =>
        refine .inr (.inl ⟨_, _, rfl, f.sq, fun hw => ?_, fun _ p n => ?_⟩)
        · refine h3 _ _ w3 le ok3 ?_
          have e : ∀ ds : List D, Reps X.K H3 (w3.M st3) _ ds → cutD ds l u = ds := fun ds rs => by
            have hl := rs.length
            unfold cutD
            rw [← hl, hw.1, hw.2, List.drop_zero, Nat.sub_zero, hl, List.take_length]
          rw [e _ rs]
          exact r3
        · obtain ⟨x, y, z⟩ := new_tup n ok3 (rs.cut l u)
          exact h3 _ _ w3 (le.trans x) y z
    · cases (show Rep _ _ _ v _ from r3)
      exact .inr (.inr ⟨_, rfl, h3.1, h3.2 _ _ w3 le ok3 (Rep.str _)⟩)
    · rename_i ht hs
      exact .inl (lst h3 fun xs e => ht xs e)
  · cases h) (fun _ => rfl)
end
end VI

/-! VS: sets of texts, sorted. -/
namespace SS
open PySem PySem.Spec PyProof.Rows
def keyOfS (e : Int × Value) : Str := match e.2 with | .str k _ => k | _ => Str.empty
def GoodS (P : Program) (w : World) (e : Int × Value) : Prop := ∃ k tk, e.2 = Value.str k tk ∧ e.1 = (PySem.strKind P w).hash k
def SetRS (P : Program) (w : World) (h : Heap) (a : Addr) (S : Str → Bool) (n : Nat) : Prop :=
  ∃ o es ep t, h.get? a = some o ∧ o.ExactSet ∧ o.data = .set es ep t ∧ (∀ e ∈ es.toList, GoodS P w e) ∧ (es.toList.map keyOfS).Nodup ∧ (∀ k, S k = true ↔ k ∈ es.toList.map keyOfS) ∧
    es.size < scanBound ∧ t.fits es.size = true ∧ es.size = n ∧ L2.Ris t.place.toList ∧ (w.params.followText "set-order" = true ∨ t.led = true)
section
variable {P : Program} {w : World} {h h' : Heap} {a : Addr} {S : Str → Bool} {n : Nat}
theorem SetRS.at (R : SetRS P w h a S n) (k : ∀ o, h.get? a = some o → h'.get? a = some o) : SetRS P w h' a S n := by
  obtain ⟨o, es, ep, t, ho, r⟩ := R
  exact ⟨o, es, ep, t, k o ho, r⟩
theorem SetRS.lt (R : SetRS P w h a S n) : a < h.objs.size := by
  obtain ⟨o, es, ep, t, ho, r⟩ := R
  exact Heap.lt_size ho
theorem SetRS.congr {S' : Str → Bool} {n' : Nat} (R : SetRS P w h a S n) (e : ∀ k, S' k = S k) (en : n' = n) : SetRS P w h a S' n' := by
  have q : S' = S := funext e
  rw [q, en]; exact R
theorem goodS_elems {l : List (Int × Value)} (g : ∀ e ∈ l, GoodS P w e) : ElemsOf (PySem.strKind P w) l := fun e he => by
  obtain ⟨k, tk, h1, h2⟩ := g e he
  exact ⟨⟨k, by rw [h1]; exact strKind_is P w k tk, h2⟩, by rw [h1] <;> rfl⟩
theorem goodS_is {e : Int × Value} (g : GoodS P w e) (k : Str) : (PySem.strKind P w).is k e.2 = true ↔ keyOfS e = k := by
  obtain ⟨k0, tk, h1, _⟩ := g
  unfold keyOfS
  rw [h1]
  show (PySem.strKind P w).is k (.str k0 tk) = true ↔ k0 = k
  rw [KeyKind.is_eq_decide (strKind_is P w k0 tk) k]
  simp only [decide_eq_true_eq]
  exact ⟨Eq.symm, Eq.symm⟩
theorem goodS_mem {l : List (Int × Value)} (g : ∀ e ∈ l, GoodS P w e) (k : Str) : k ∈ l.map keyOfS ↔ ∃ e ∈ l, (PySem.strKind P w).is k e.2 = true := by
  rw [List.mem_map]
  constructor
  · rintro ⟨e, he, q⟩
    exact ⟨e, he, (goodS_is (g e he) k).2 q⟩
  · rintro ⟨e, he, q⟩
    exact ⟨e, he, (goodS_is (g e he) k).1 q⟩
end

section
variable {P : Program} {w : World} {A : Around} {E : Value → Shared → Prop} {s : Shared} {a : Addr} {S : Str → Bool} {n : Nat}
open L2
theorem setRS_add_tail {g : Bool → Sem Unit} (hg : ∀ (b : Bool) (s₁ : Shared) (Q' : Unit → Shared → Prop), Q' () s₁ → wpAny (model P w) A (g b) Q' E s₁)
    {o : Obj} {es : Array (Int × Value)} {ep : Nat} {t : SetTable} (ho : s.heap.get? a = some o) (hex : o.ExactSet) (hd : o.data = .set es ep t)
    {es1 : Array (Int × Value)} {t2 : SetTable} {S' : Str → Bool} (g1 : ∀ e ∈ es1.toList, GoodS P w e) (nd1 : (es1.toList.map keyOfS).Nodup) (m1 : ∀ k, S' k = true ↔ k ∈ es1.toList.map keyOfS)
    (hb1 : es1.size < scanBound) (hf2 : t2.fits es1.size = true) (hr : Ris t2.place.toList) (hl : w.params.followText "set-order" = true ∨ t2.led = true) {wasDummy : Bool} {R : Option Bool → Shared → Prop}
    (hR : ∀ h', Heap.SameBut a s.heap h' → SetRS P w h' a S' es1.size → R (some true) { s with heap := h' }) :
    wpAny (model P w) A (do
        storeSet a es1 t2
        if (!wasDummy && t2.tooFull) = true then do
            g (relayAll t2 es1 (SetTable.grown es1.size)).2.2
            storeSet a (relayAll t2 es1 (SetTable.grown es1.size)).1 (relayAll t2 es1 (SetTable.grown es1.size)).2.1
            pure (some true)
          else pure (some true)) R E s := by
  refine wpAny_bind (wpAny_storeSet_of ho hd ?_ (fits_of_scanBound hb1))
  have ho1 := store_at (es' := es1) (t' := t2) ho hd
  have sb1 := Heap.SameBut.update s.heap a (Obj.putSet es1 t2)
  split
  · have pm := relayAll_perm t2 es1 (SetTable.grown es1.size)
    have hf3 := relayAll_fits t2 es1 (SetTable.grown es1.size)
    have hr3 := relayAll_ris t2 es1 (SetTable.grown es1.size)
    have hl3 := relayAll_led t2 es1 (SetTable.grown es1.size)
    generalize relayAll t2 es1 (SetTable.grown es1.size) = Z at pm hf3 hr3 hl3 ⊢
    obtain ⟨es2, t3, gave⟩ := Z
    dsimp only at pm hf3 hr3 hl3 ⊢
    have hsz : es2.size = es1.size := by rw [← Array.length_toList, pm.length_eq, Array.length_toList]
    have hb2 : es2.size < scanBound := by rw [hsz]; exact hb1
    refine wpAny_bind (hg _ _ _ ?_)
    refine wpAny_bind (wpAny_storeSet_of ho1 rfl ?_ (fits_of_scanBound hb2))
    have ho2 := store_at (es' := es2) (t' := t3) ho1 rfl
    refine wpAny_pure (hR _ (sb1.trans (Heap.SameBut.update _ a _)) ?_)
    exact ⟨_, es2, _, t3, ho2, hex, rfl, fun e he => g1 e (pm.mem_iff.mp he), (pm.map keyOfS).nodup_iff.mpr nd1, fun k => (m1 k).trans (pm.map keyOfS).mem_iff.symm, hb2, hf3, hsz, hr3,
      hl.imp id fun z => by rw [hl3]; exact z⟩
  · exact wpAny_pure (hR _ sb1 ⟨_, es1, _, t2, ho1, hex, rfl, g1, nd1, m1, hb1, hf2, rfl, hr, hl⟩)

theorem setRS_add_hashed {k : Str} {tk : Tok} {Q : Bool → Shared → Prop} (R : SetRS P w s.heap a S n) (room : n + 1 < scanBound)
    (hQ : ∀ h', Heap.SameBut a s.heap h' → SetRS P w h' a (fun j => S j || decide (j = k)) (if S k = true then n else n + 1) → Q (!S k) { s with heap := h' }) :
    wpAny (model P w) A (setAddHashed a (.str k tk) ((PySem.strKind P w).hash k)) Q E s := by
  obtain ⟨o, es, ep, t, ho, hex, hd, g, nd, hm, hb, hf, hn, hr, hl⟩ := R
  have hkey : (PySem.strKind P w).is k (.str k tk) = true := strKind_is P w k tk
  have hsc : (Value.str k tk).scannable = true := rfl
  have hel : ElemsOf (PySem.strKind P w) es.toList := goodS_elems g
  unfold setAddHashed setAddHashedIn
  refine wpAny_holding (wpAny_bind (wpAny_setState_of ho hd hf ?_))
  dsimp only
  rw [byScan_of hsc hb hel]
  simp only [↓reduceIte]
  unfold setAddByScan
  refine wpAny_bind ?_
  refine wpAny_bind (wpAny_rule ?_)
  refine wpAny_bind (wpAny_setScan_of hkey ho hd hf hel ?_)
  cases hfi : List.findIdx? (fun e => (PySem.strKind P w).is k e.2) es.toList with
  | some j =>
    dsimp only
    obtain ⟨hj, pj, _⟩ := List.findIdx?_eq_some_iff_getElem.mp hfi
    have hSk : S k = true := (hm k).2 ((goodS_mem (P := P) (w := w) g k).2 ⟨es.toList[j], List.getElem_mem hj, pj⟩)
    refine wpAny_pure (wpAny_pure ?_)
    have q := hQ s.heap (Heap.SameBut.refl a s.heap) ⟨o, es, ep, t, ho, hex, hd, g, nd, fun i => by
      rw [Bool.or_eq_true, decide_eq_true_eq, ← hm i]
      exact ⟨fun z => z.elim id (fun e => e ▸ hSk), .inl⟩, hb, hf, by rw [if_pos hSk]; exact hn, hr, hl⟩
    rw [hSk] at q
    exact q
  | none =>
    dsimp only
    have hnk : k ∉ es.toList.map keyOfS := fun z => by
      obtain ⟨e, he, q⟩ := (goodS_mem (P := P) (w := w) g k).1 z
      have c := List.findIdx?_eq_none_iff.mp hfi e he
      rw [q] at c
      cases c
    have hSk : S k = false := by
      cases q : S k with
      | false => rfl
      | true => exact absurd ((hm k).1 q) hnk
    have hgw : ∀ (b : Bool) {s₁ : Shared} {Q' : Unit → Shared → Prop}, Q' () s₁ → wpAny (model P w) A (match b with | true => rule "set.scan.the-table-gave-way" | false => pure ()) Q' E s₁ :=
      fun b s₁ Q' q => by cases b <;> first | exact wpAny_pure q | exact wpAny_rule q
    have pm := layNew_perm t es ((PySem.strKind P w).hash k) (.str k tk)
    have hf1 := layNew_fits t es ((PySem.strKind P w).hash k) (.str k tk)
    have hr1 := layNew_ris t es ((PySem.strKind P w).hash k) (.str k tk) hr
    have hl1 := layNew_led t es ((PySem.strKind P w).hash k) (.str k tk)
    generalize layNew t es ((PySem.strKind P w).hash k) (.str k tk) = Z at pm hf1 hr1 hl1 ⊢
    obtain ⟨es1, t1, wasDummy, gave⟩ := Z
    dsimp only at pm hf1 hr1 hl1 ⊢
    rw [Array.toList_push] at pm
    have pc : es1.toList.Perm (((PySem.strKind P w).hash k, Value.str k tk) :: es.toList) := pm.trans (List.perm_append_singleton _ _)
    have pk : (es1.toList.map keyOfS).Perm (k :: es.toList.map keyOfS) := pc.map keyOfS
    have g1 : ∀ e ∈ es1.toList, GoodS P w e := fun e he => by
      rcases List.mem_cons.mp (pc.mem_iff.mp he) with z | z
      · rw [z]; exact ⟨k, tk, rfl, rfl⟩
      · exact g e z
    have nd1 : (es1.toList.map keyOfS).Nodup := pk.nodup_iff.mpr (List.nodup_cons.mpr ⟨hnk, nd⟩)
    have m1 : ∀ i, (S i || decide (i = k)) = true ↔ i ∈ es1.toList.map keyOfS := fun i => by
      rw [Bool.or_eq_true, decide_eq_true_eq, hm i, pk.mem_iff, List.mem_cons]
      exact Or.comm
    have hsz : es1.size = n + 1 := by rw [← Array.length_toList, pc.length_eq, List.length_cons, Array.length_toList, hn]
    have hb1 : es1.size < scanBound := by rw [hsz]; exact room
    have hled : w.params.followText "set-order" = true ∨ t1.led = true := hl.imp id fun z => by rw [hl1]; exact z
    have fin : ∀ h', Heap.SameBut a s.heap h' → SetRS P w h' a (fun j => S j || decide (j = k)) es1.size → Q true { s with heap := h' } := fun h' sb r => by
      have q := hQ h' sb
      rw [hSk] at q
      rw [hsz] at r
      exact q r
    refine wpAny_bind (hgw _ ?_)
    split
    · refine wpAny_bind ?_
      rw [hashByValue_scannable 8 hsc]
      refine wpAny_pure ?_
      refine setRS_add_tail ?_ ho hex hd g1 nd1 m1 hb1 ?_ ?_ ?_ ?_
      · intro b s₁ Q' q; cases b <;> first | exact wpAny_pure q | exact wpAny_rule q
      · first | (split <;> first | exact hf1 | exact SetTable.fits_plain_off hf1) | exact hf1
      · first | (split <;> exact hr1) | exact hr1
      · first | (split <;> exact hled) | exact hled
      · intro h' sb r; dsimp only; exact wpAny_pure (fin h' sb r)
    · refine wpAny_bind (wpAny_pure ?_)
      simp only [↓reduceIte]
      refine setRS_add_tail ?_ ho hex hd g1 nd1 m1 hb1 hf1 hr1 hled ?_
      · intro b s₁ Q' q; cases b <;> first | exact wpAny_pure q | exact wpAny_rule q
      · intro h' sb r; dsimp only; exact wpAny_pure (fin h' sb r)
theorem setRS_fresh {h : Heap} {a : Addr} (ho : h.get? a = some { cls := .type "set", dict := none, data := .set #[] 0 (.fresh 0 0 (!w.params.followText "set-order")) }) : SetRS P w h a (fun _ => false) 0 :=
  ⟨_, #[], 0, _, ho, ⟨rfl, rfl, rfl⟩, rfl, (fun e he => by simp at he), (by simp), (fun k => by simp), (by decide), (by rfl), rfl, List.Pairwise.nil, by
    show _ ∨ (!w.params.followText "set-order") = true
    cases w.params.followText "set-order"
    · exact .inr rfl
    · exact .inl rfl⟩
end

section
variable {prog : Program} {w : World} {A : Around} {R : Result → Shared → Prop} {I : Addr} {fp wr : List Addr} {G : Array GenState → Array GenState → Prop} {n : Nat} {P : Nat → Value → Prop} {St : Nat → Shared → Prop}
theorem loopStrs (W : WalksS prog w A.in1 I fp wr G n P St) (S : Addr) (hSf : S ∉ fp) (xs : List Str) (hsz : xs.length = n) (hn1 : n < 64)
    (hval : ∀ i v, P i v → ∃ t, v = .str (xs.getD i Str.empty) t) :
    ∀ (k i : Nat) (s : Shared), n - i = k → i ≤ n → St i s →
      (∃ m, m ≤ i ∧ SetRS prog w s.heap S (fun k' => (xs.take i).any (· == k')) m) →
      (∀ s', Moved (S :: wr) G s s' → (∃ m, m ≤ n ∧ SetRS prog w s'.heap S (fun k' => (xs.take n).any (· == k')) m) → R (.ok (.ret .none)) s') →
      codeAny (model prog w) A (.builtin "set.update.loop" ⟨[.ref S, .ref I], []⟩) R s := by
  have hSw : S ∉ wr := fun h => hSf (W.sub _ h)
  have hsub : ∀ b ∈ wr, b ∈ S :: wr := fun b hb => List.mem_cons_of_mem _ hb
  intro k
  induction k with
  | zero =>
    intro i s hk hi hst ⟨m, hm1, hS⟩ hR
    have hin : i = n := by omega
    subst hin
    refine codeAny_builtin PyProof.Rows.F.entry_set_update_loop ?_
    rw [Around.under_plainId PyProof.Rows.F.plain_set_update_loop _]
    show wpAny _ A.in1 (pyNext (.ref I) >>= _) _ _ s
    refine wpAny_bind (W.done s _ _ hst fun s' hm => ?_)
    show wpAny _ A.in1 (ret Value.none) _ _ s'
    exact wpAny_pure (hR s' (hm.mono hsub) ⟨m, hm1, hS.at fun o e => hm.heap S o hSw e⟩)
  | succ k ih =>
    intro i s hk hi hst ⟨m, hm1, hS⟩ hR
    have hlt : i < n := by omega
    refine codeAny_builtin PyProof.Rows.F.entry_set_update_loop ?_
    rw [Around.under_plainId PyProof.Rows.F.plain_set_update_loop _]
    show wpAny _ A.in1 (pyNext (.ref I) >>= _) _ _ s
    refine wpAny_bind (W.item i s _ _ hlt hst fun v s' hP hst' hm => ?_)
    obtain ⟨t, rfl⟩ := hval i v hP
    have hS' : SetRS prog w s'.heap S (fun k' => (xs.take i).any (· == k')) m := hS.at fun o e => hm.heap S o hSw e
    show wpAny _ A.in1 (holding [Value.str (xs.getD i Str.empty) t] (setAdd S (.str (xs.getD i Str.empty) t)) >>= _) _ _ s'
    refine wpAny_bind (wpAny_holding ?_)
    unfold setAdd
    refine wpAny_holding ?_
    refine wpAny_bind ((PySem.strKind prog w).pyHash (k := xs.getD i Str.empty) (strKind_is _ _ _ _) ?_)
    refine setRS_add_hashed (s := { s' with toks := s'.toks + 1 }) hS' (by unfold scanBound; omega) fun h' hsb hS2 => ?_
    have hxi : xs[i]? = some (xs.getD i Str.empty) := by
      rw [List.getD_eq_getElem?_getD, List.getElem?_eq_getElem (by omega)]
      rfl
    have hSi : ∃ m, m ≤ i + 1 ∧ SetRS prog w h' S (fun k' => (xs.take (i + 1)).any (· == k')) m := by
      refine ⟨_, ?_, hS2.congr (fun k' => ?_) rfl⟩
      · split <;> omega
      · rw [List.take_add_one, hxi, List.any_append]
        show (_ || ((xs.getD i Str.empty == k') || false)) = _
        rw [Bool.or_false]
        congr 1
        by_cases e : k' = xs.getD i Str.empty
        · rw [e]; simp
        · have hb : (xs.getD i Str.empty == k') = false := beq_eq_false_iff_ne.mpr fun z => e z.symm
          rw [hb, decide_eq_false e]
    refine wpAny_pure ⟨plainId_quiet PyProof.Rows.F.plain_set_update_loop _, ih (i + 1) _ (by omega) hlt (W.frame _ s' _ _ hst' (Nat.le_succ _) fun b hb o e => ?_) hSi fun s'' hm'' hS'' => ?_⟩
    · rw [hsb.2 b (fun h : b = S => hSf (by rw [← h]; exact hb))]; exact e
    · refine hR s'' (Moved.trans W.gtrans ((hm.mono hsub).then_heap (Nat.le_succ _) fun b o hb e => ?_) hm'') hS''
      rw [hsb.2 b (fun h : b = S => hb (by rw [h]; exact List.mem_cons_self))]; exact e
end

section
variable {prog : Program} {w : World} {A : Around} {E : Value → Shared → Prop} {s : Shared}
open L2
theorem call_set_strs {l : Addr} {items : Array Value} {xs : List Str} {Q : Value → Shared → Prop}
    (hh : A.handled = none) (hl : s.heap.IsList l items) (hi : PyProof.Rows.StrsAre items.toList xs) (hn1 : xs.length < 64)
    (h : ∀ (h' : Heap) (tk m : Nat), m ≤ xs.length → SetRS prog w h' s.heap.objs.size (fun k' => xs.any (· == k')) m →
      (∀ b o, b < s.heap.objs.size → s.heap.get? b = some o → h'.get? b = some o) → Q (.ref s.heap.objs.size) { s with heap := h', toks := tk }) :
    wpAny (model prog w) A (call (.type "set") [.ref l]) Q E s := by
  obtain ⟨c, tl, hmro⟩ := PySem.F.called_set.mro
  have hmade := PySem.F.called_set.made
  have hsub := PySem.F.called_set.sub
  have hsz : xs.length = items.size := by rw [← StrsAre.len_eq hi, Array.length_toList]
  refine wpAny_call (codeAny_of_tree ?_)
  show wpAny _ _ (callAny (.type "set") _) _ _ _
  refine wpAny_pure ⟨Code.quiet_builtin _ (by decide +kernel), codeAny_builtin PySem.F.entry_type_call ?_⟩
  rw [Around.under_plain (weight_type_call_type "set" [.ref l] []) rfl]
  have h1 := PySem.F.called_set.notType
  have h2 := PySem.F.called_set.canCreate
  have hct := PySem.F.typeCall_set_1 (.ref l)
  repeat (any_goals (first | assumption | wp_step))

  refine codeAny_mono (code_set_led1 (.ref l) (E := E) (Q₁ := fun obj s₁ => obj = .ref s.heap.objs.size ∧ s₁ = { s with heap := s.heap.push { cls := .type "set", dict := none, data := .set #[] 0 (.fresh 0 0 (!w.params.followText "set-order")) } }) ⟨rfl, rfl⟩) fun r s₁ hr => ?_
  cases r with
  | error e => exact hr
  | ok fl =>
    cases fl with
    | ret obj =>
      obtain ⟨rfl, rfl⟩ := hr
      have hS : (s.heap.push { cls := .type "set", dict := none, data := .set #[] 0 (.fresh 0 0 (!w.params.followText "set-order")) }).get? s.heap.objs.size = some { cls := .type "set", dict := none, data := .set #[] 0 (.fresh 0 0 (!w.params.followText "set-order")) } := Heap.get?_push_size _ rfl
      have hT : Shared.TypeIs { s with heap := s.heap.push { cls := .type "set", dict := none, data := .set #[] 0 (.fresh 0 0 (!w.params.followText "set-order")) } } (.ref s.heap.objs.size) "set" := ⟨_, hS, rfl⟩
      have hli := PySem.F.called_set.init.lookup
      have hbi := PySem.F.called_set.init.bind (.ref s.heap.objs.size)
      repeat (any_goals (first | assumption | wp_step))

      refine codeAny_mono (codeAny_call_builtin (R := wants (fun r s₂ => r = .none ∧ ∃ h' tk m, s₂ = { s with heap := h', toks := tk } ∧ m ≤ xs.length ∧
          SetRS prog w h' s.heap.objs.size (fun k' => xs.any (· == k')) m ∧
          (∀ b o, b < s.heap.objs.size → s.heap.get? b = some o → h'.get? b = some o)) E) PySem.F.called_set.init.plain PySem.F.entry_set_init (check_set_init_1 hT ?_)) fun r₂ s₂ hr₂ => ?_
      · obtain ⟨ol, hol, hcl, nl, hdl⟩ := hl
        obtain ⟨ocls, odict, odata, oslots⟩ := ol
        simp only at hcl hdl
        subst hcl; subst hdl
        have hol' : (s.heap.push { cls := .type "set", dict := none, data := .set #[] 0 (.fresh 0 0 (!w.params.followText "set-order")) }).get? l = some { cls := .type "list", dict := odict, data := .seq items nl, slots := oslots } := Heap.get?_push_of_some _ hol
        have hsls := PySem.F.sub_list_set
        have hslf := PySem.F.sub_list_frozenset
        have hne : (Value.type "list" == Value.type "dict") = false := by decide
        have hl1 : (s.heap.push { cls := .type "set", dict := none, data := .set #[] 0 (.fresh 0 0 (!w.params.followText "set-order")) }).IsList l items := ⟨_, hol', rfl, nl, rfl⟩
        unfold Builtin.«set.__init__» noKeywords Builtin.Frozenset.updateFrom
        generalize hPI : pyIter = PI
        wp_walk
        subst hPI

        refine wpAny_pyIter_list hl1 ?_
        refine wpAny_bind (wpAny_runValue ?_)
        have hlS : l < s.heap.objs.size := Heap.lt_size hol
        have hh3 : A.in1.in1.in1.handled = none := by simp [hh]
        have hneI : l ≠ (s.heap.push { cls := .type "set", dict := none, data := .set #[] 0 (.fresh 0 0 (!w.params.followText "set-order")) }).objs.size := by
          rw [Heap.size_push]; exact Nat.ne_of_lt (Nat.lt_succ_of_lt hlS)
        have hSf : s.heap.objs.size ∉ [(s.heap.push { cls := .type "set", dict := none, data := .set #[] 0 (.fresh 0 0 (!w.params.followText "set-order")) }).objs.size, l] := by
          rw [Heap.size_push]; simp only [List.mem_cons, List.mem_singleton, List.not_mem_nil, or_false, not_or]
          exact ⟨Nat.ne_of_lt (Nat.lt_succ_self _), Nat.ne_of_gt hlS⟩
        have hval : ∀ (i : Nat) (v : Value), items[i]? = some v → ∃ t, v = .str (xs.getD i Str.empty) t := fun i v hv => strs_at hi i v (by rw [Array.getElem?_toList]; exact hv)
        refine loopStrs ((Walks.list hh3 _ l hneI items).toS) s.heap.objs.size
          hSf xs hsz (by rw [← hsz]; exact hn1) hval (items.size - 0) 0 _ (by omega) (Nat.zero_le _)
          ⟨⟨_, Heap.get?_push_size _ rfl, rfl, rfl⟩, (hl1.push _)⟩ ?hS0 ?hR
        case hS0 =>
          have hget : ((s.heap.push { cls := .type "set", dict := none, data := .set #[] 0 (.fresh 0 0 (!w.params.followText "set-order")) }).push { cls := .type "list_iterator", data := .fields #[.ref l, .int 0 0] }).get? s.heap.objs.size
              = some { cls := .type "set", dict := none, data := .set #[] 0 (.fresh 0 0 (!w.params.followText "set-order")) } := Heap.get?_push_of_some _ hS
          exact ⟨0, Nat.le_refl _, setRS_fresh hget⟩
        case hR =>
          intro s' hm hS'
          obtain ⟨m, hm1, hS'⟩ := hS'
          obtain ⟨h', g', d', tk', os'⟩ := s'
          have eg : g' = s.gens := hm.gens
          have ed : d' = s.drawn := hm.drawn
          have eo : os' = s.os := hm.os
          subst eg; subst ed; subst eo
          show wpAny _ _ _ _ _ _
          refine wpAny_pure ?_
          show wpAny _ _ (ret Value.none) _ _ _
          rw [← hsz, List.take_length] at hS'
          refine wpAny_pure ⟨rfl, h', tk', m, rfl, by omega, hS', fun b o hb e => ?_⟩
          have hb1 : b ≠ s.heap.objs.size := Nat.ne_of_lt hb
          have hb2 : b ≠ (s.heap.push { cls := .type "set", dict := none, data := .set #[] 0 (.fresh 0 0 (!w.params.followText "set-order")) }).objs.size := by
            rw [Heap.size_push]; exact Nat.ne_of_lt (Nat.lt_succ_of_lt hb)
          exact hm.heap b o (by simp only [List.mem_cons, List.mem_singleton, List.not_mem_nil, or_false, not_or]; exact ⟨hb1, hb2⟩) (Heap.get?_push_of_some _ (Heap.get?_push_of_some _ e))

      · cases r₂ with
        | error e => exact hr₂
        | ok fl₂ =>
          cases fl₂ with
          | ret r =>
            obtain ⟨rfl, h', tk, m, rfl, hm1, hS', hk'⟩ := hr₂
            repeat (any_goals (first | assumption | wp_step))
            exact h _ _ _ hm1 hS' hk'
          | _ => exact hr₂.elim
    | _ => exact hr.elim
theorem strs_of : ∀ (l : List Value), (∀ v ∈ l, ∃ k tk, v = Value.str k tk) → StrsAre l (l.map fun v => match v with | .str k _ => k | _ => Str.empty)
  | [], _ => .nil
  | v :: l, h => by
    obtain ⟨k, tk, rfl⟩ := h v List.mem_cons_self
    exact .cons k tk (strs_of l fun u hu => h u (List.mem_cons_of_mem _ hu))
theorem sorted_setS {a : Addr} {S : Str → Bool} {n : Nat} {Q : Value → Shared → Prop} (R : SetRS prog w s.heap a S n) (hh : A.handled = none) (h64 : n < 64)
    (hQ : ∀ s' p (out : Array Value) (c : Nat) (ns : List Str), (∀ b o, s.heap.get? b = some o → s'.heap.get? b = some o) → s'.gens = s.gens → s'.os = s.os → s.heap.objs.size ≤ p →
      s'.heap.get? p = some (seqObj "list" out c) → StrsAre out.toList ns → sortedS ns = true → ns.Nodup → (∀ k, k ∈ ns ↔ S k = true) → ns.length = n → Q (.ref p) s') :
    wpAny (model prog w) A (call (.builtin "sorted") [.ref a]) Q E s := by
  obtain ⟨o, es, ep, t, ho, hex, hd, g, nd, hm, hb, hf, hn, hr, hl⟩ := R
  refine Calls.call_function_entry kind_sorted plain_sorted entry_sorted (args_sorted1 _) ?_
  unfold Builtin.«sorted»
  refine wpAny_bind (m := checkCount "sorted" 1 1 _) (wpAny_pure ?_)
  refine wpAny_bind (collect_set (A := A.in1) hh ⟨o, ho, hex.1, hd⟩ hf hb hr hl fun s1 vs k1 hz g1 o1 pm => ?_)
  have hvl : vs.length = n := by rw [pm.length_eq, List.length_map, Array.length_toList]; exact hn
  have hI : StrsAre vs (vs.map fun v => match v with | .str k _ => k | _ => Str.empty) := strs_of vs fun v hv => by
    obtain ⟨e, he, q⟩ := List.mem_map.mp (pm.mem_iff.mp hv)
    obtain ⟨k, tk, h1, _⟩ := g e he
    exact ⟨k, tk, by rw [← q]; exact h1⟩
  have pk : (vs.map fun v => match v with | .str k _ => k | _ => Str.empty).Perm (es.toList.map keyOfS) := by
    have q := pm.map (fun v : Value => match v with | .str k _ => k | _ => Str.empty)
    rw [List.map_map] at q
    exact q
  generalize (vs.map fun v => match v with | .str k _ => k | _ => Str.empty) = ks at hI pk
  refine wpAny_bind (wpAny_newList ?_ (by rw [hvl, sizeLine_eq]; omega))
  have hoL : (s1.heap.push (seqObj "list" vs.toArray 0)).get? s1.heap.objs.size = some (seqObj "list" vs.toArray 0) := Heap.get?_push_size _ rfl
  refine wpAny_bind (wpAny_holding (wpAny_call_entry slot_list_sort ⟨_, hoL, rfl⟩ entry_list_sort
    (list_sort_treeK strKind_oneLt (s := { s1 with heap := s1.heap.push (seqObj "list" vs.toArray 0) }) hoL hI.keysOf (fun v₁ v₂ rest e => keyKind_strs (by rw [← e]; exact hI)) (by rw [hvl]; exact h64) fun st' hp hs => ⟨_, rfl, ?_⟩) (args_list_sort _)))
  obtain ⟨ys, q1, q2, q3⟩ := sorted_out_str hI hp hs
  obtain ⟨c, hc⟩ := sortedHeap_at (vs := vs) (out := (arrOf st').map (·.2)) hoL
  have pn : ys.Perm (es.toList.map keyOfS) := q2.trans pk
  refine wpAny_pure ⟨_, rfl, hQ _ s1.heap.objs.size ((arrOf st').map (·.2)) c ys (fun b u e => ?_) g1 o1 hz hc q1 q3 (pn.nodup_iff.mpr nd) (fun k => by rw [pn.mem_iff, ← hm k]) ?_⟩
  · have q := k1 b u e
    have hlt := Heap.lt_size q
    show (sortedHeap (s1.heap.push (seqObj "list" vs.toArray 0)) s1.heap.objs.size vs _).get? b = some u
    rw [sortedHeap_old (Nat.ne_of_lt hlt) (by rw [size_push']; exact Nat.lt_succ_of_lt hlt)]
    exact Heap.get?_push_of_some _ q
  · rw [pn.length_eq, List.length_map, Array.length_toList]; exact hn
end
end SS
namespace L2
open PySem PySem.Spec PyProof.Rows
/-- the set of texts at a -/
def SetSO (P : Program) (w : World) (a : Addr) (S : Str → Bool) (n : Nat) : HO := .ext fun h => SS.SetRS P w h a S n
section
variable {X : Cx}
theorem setSO_new {w : World} {P P' : Program} {H : Hp} {h : Heap} {a : Addr} {S : Str → Bool} {n : Nat} (R : SS.SetRS P w h a S n) : ObjOk P' w H h a (SetSO P w a S n) := by
  have ⟨o, _, _, _, ho, _⟩ := R
  exact ⟨R, ⟨o, ho⟩, fun h1 h2 p k => SS.SetRS.at p k⟩
theorem setSO_get {pins : List (Addr × Obj)} {σ : St} {H : Hp} {s : Shared} {a : Addr} {S : Str → Bool} {n : Nat} (I : Inv X pins σ H s) (ha : H a = some (SetSO X.prog X.w a S n)) : SS.SetRS X.prog X.w s.heap a S n := (I.hok a _ ha).1
def rSetSS (X : Cx) : List V → Hp → VK → Prop := fun xs H Q => ∃ (l : Addr) (ts : List Str), xs = [.ref l] ∧ SqL X.K H l (ts.map V.str) ∧ ts.length < 64 ∧
  ∀ p m, m ≤ ts.length → H p = none → Q (.ref p) (upd H p (SetSO X.prog X.w p (fun k => ts.any (· == k)) m))
theorem cr_setSS (hc : X.calm = true) : CallR X (.type "set") (rSetSS X) := by
  intro pins s σ H xs us Q I r h
  obtain ⟨l, ts, rfl, hq, h64, q⟩ := h
  obtain ⟨its, rv, pl, hz⟩ := I.list hq
  rw [Vals.ref1 r]
  refine SS.call_set_strs (I.ok.hd hc) pl.isList (by simpa using strsAre_of rv) h64 fun h' tk m hm1 hS hk => ?_
  have k : ∀ b o, s.heap.get? b = some o → h'.get? b = some o := fun b o e => hk b o (Heap.lt_size e) e
  exact ⟨.ref _, upd H s.heap.objs.size _, I.laid (t' := tk) k (Nat.le_refl _) (setSO_new hS), rfl, q _ m hm1 (I.hok.fresh (Nat.le_refl _))⟩
def rSortedSS (X : Cx) : List V → Hp → VK → Prop := fun vs H Q => ∃ (a : Addr) (S : Str → Bool) (n : Nat), vs = [V.ref a] ∧ H a = some (SetSO X.prog X.w a S n) ∧ n < 64 ∧
  ∀ (ns : List Str) (p : Addr), sortedS ns = true → ns.Nodup → (∀ k : Str, k ∈ ns ↔ S k = true) → ns.length = n → H p = none → Q (.ref p) (upd H p (.lst (ns.map V.str)))
theorem cr_sortedSS (hc : X.calm = true) : CallR X (.builtin "sorted") (rSortedSS X) := by
  intro pins s σ H vs us Q I r h
  obtain ⟨a, S, n, rfl, ha, h64, q⟩ := h
  have R := setSO_get I ha
  rw [Vals.ref1 r]
  refine SS.sorted_setS R (I.ok.hd hc) h64 fun s' p out c ns k g o hp hg hi hs hnd hm hl => ?_
  have hlen : (ns.map V.str).length ≤ sizeLine := by rw [List.length_map, hl, sizeLine_eq]; omega
  have hn : H p = none := I.hok.fresh hp
  have J : Inv X pins σ (upd H p (.lst (ns.map V.str))) { s with heap := s'.heap, gens := s'.gens, drawn := s'.drawn, toks := s'.toks } :=
    I.call (ch := []) (Un.laid k hp hn) (I.hok.laid k hp ⟨hlen, out.toList, c, vals_of_strs hi, hg⟩) (by rw [g]; exact I.bare) (fun _ z => nomatch z)
  have e : s' = { s with heap := s'.heap, gens := s'.gens, drawn := s'.drawn, toks := s'.toks } := by
    cases s'
    cases s
    cases o
    rfl
  rw [e]
  exact ⟨.ref p, _, J, rfl, q ns p hs hnd hm hl hn⟩
end
end L2
namespace SS
open PySem PySem.Spec PyProof.Rows
section
variable {prog : Program} {w : World} {A : Around} {E : Value → Shared → Prop} {s : Shared}
open L2
theorem call_set_strsT {l : Addr} {items : Array Value} {xs : List Str} {Q : Value → Shared → Prop}
    (hh : A.handled = none) (hl : s.heap.IsTuple l items) (hi : PyProof.Rows.StrsAre items.toList xs) (hn1 : xs.length < 64)
    (h : ∀ (h' : Heap) (tk m : Nat), m ≤ xs.length → SetRS prog w h' s.heap.objs.size (fun k' => xs.any (· == k')) m →
      (∀ b o, b < s.heap.objs.size → s.heap.get? b = some o → h'.get? b = some o) → Q (.ref s.heap.objs.size) { s with heap := h', toks := tk }) :
    wpAny (model prog w) A (call (.type "set") [.ref l]) Q E s := by
  obtain ⟨c, tl, hmro⟩ := PySem.F.called_set.mro
  have hmade := PySem.F.called_set.made
  have hsub := PySem.F.called_set.sub
  have hsz : xs.length = items.size := by rw [← StrsAre.len_eq hi, Array.length_toList]
  refine wpAny_call (codeAny_of_tree ?_)
  show wpAny _ _ (callAny (.type "set") _) _ _ _
  refine wpAny_pure ⟨Code.quiet_builtin _ (by decide +kernel), codeAny_builtin PySem.F.entry_type_call ?_⟩
  rw [Around.under_plain (weight_type_call_type "set" [.ref l] []) rfl]
  have h1 := PySem.F.called_set.notType
  have h2 := PySem.F.called_set.canCreate
  have hct := PySem.F.typeCall_set_1 (.ref l)
  repeat (any_goals (first | assumption | wp_step))

  refine codeAny_mono (code_set_led1 (.ref l) (E := E) (Q₁ := fun obj s₁ => obj = .ref s.heap.objs.size ∧ s₁ = { s with heap := s.heap.push { cls := .type "set", dict := none, data := .set #[] 0 (.fresh 0 0 (!w.params.followText "set-order")) } }) ⟨rfl, rfl⟩) fun r s₁ hr => ?_
  cases r with
  | error e => exact hr
  | ok fl =>
    cases fl with
    | ret obj =>
      obtain ⟨rfl, rfl⟩ := hr
      have hS : (s.heap.push { cls := .type "set", dict := none, data := .set #[] 0 (.fresh 0 0 (!w.params.followText "set-order")) }).get? s.heap.objs.size = some { cls := .type "set", dict := none, data := .set #[] 0 (.fresh 0 0 (!w.params.followText "set-order")) } := Heap.get?_push_size _ rfl
      have hT : Shared.TypeIs { s with heap := s.heap.push { cls := .type "set", dict := none, data := .set #[] 0 (.fresh 0 0 (!w.params.followText "set-order")) } } (.ref s.heap.objs.size) "set" := ⟨_, hS, rfl⟩
      have hli := PySem.F.called_set.init.lookup
      have hbi := PySem.F.called_set.init.bind (.ref s.heap.objs.size)
      repeat (any_goals (first | assumption | wp_step))

      refine codeAny_mono (codeAny_call_builtin (R := wants (fun r s₂ => r = .none ∧ ∃ h' tk m, s₂ = { s with heap := h', toks := tk } ∧ m ≤ xs.length ∧
          SetRS prog w h' s.heap.objs.size (fun k' => xs.any (· == k')) m ∧
          (∀ b o, b < s.heap.objs.size → s.heap.get? b = some o → h'.get? b = some o)) E) PySem.F.called_set.init.plain PySem.F.entry_set_init (check_set_init_1 hT ?_)) fun r₂ s₂ hr₂ => ?_
      · obtain ⟨ol, hol, hcl, nl, hdl⟩ := hl
        obtain ⟨ocls, odict, odata, oslots⟩ := ol
        simp only at hcl hdl
        subst hcl; subst hdl
        have hol' : (s.heap.push { cls := .type "set", dict := none, data := .set #[] 0 (.fresh 0 0 (!w.params.followText "set-order")) }).get? l = some { cls := .type "tuple", dict := odict, data := .seq items nl, slots := oslots } := Heap.get?_push_of_some _ hol
        have hsls := PySem.F.sub_tuple_set
        have hslf := PySem.F.sub_tuple_frozenset
        have hne : (Value.type "tuple" == Value.type "dict") = false := by decide
        have hl1 : (s.heap.push { cls := .type "set", dict := none, data := .set #[] 0 (.fresh 0 0 (!w.params.followText "set-order")) }).IsTuple l items := ⟨_, hol', rfl, nl, rfl⟩
        unfold Builtin.«set.__init__» noKeywords Builtin.Frozenset.updateFrom
        generalize hPI : pyIter = PI
        wp_walk
        subst hPI

        refine wpAny_pyIter_tuple hl1 ?_
        refine wpAny_bind (wpAny_runValue ?_)
        have hlS : l < s.heap.objs.size := Heap.lt_size hol
        have hh3 : A.in1.in1.in1.handled = none := by simp [hh]
        have hneI : l ≠ (s.heap.push { cls := .type "set", dict := none, data := .set #[] 0 (.fresh 0 0 (!w.params.followText "set-order")) }).objs.size := by
          rw [Heap.size_push]; exact Nat.ne_of_lt (Nat.lt_succ_of_lt hlS)
        have hSf : s.heap.objs.size ∉ [(s.heap.push { cls := .type "set", dict := none, data := .set #[] 0 (.fresh 0 0 (!w.params.followText "set-order")) }).objs.size, l] := by
          rw [Heap.size_push]; simp only [List.mem_cons, List.mem_singleton, List.not_mem_nil, or_false, not_or]
          exact ⟨Nat.ne_of_lt (Nat.lt_succ_self _), Nat.ne_of_gt hlS⟩
        have hval : ∀ (i : Nat) (v : Value), items[i]? = some v → ∃ t, v = .str (xs.getD i Str.empty) t := fun i v hv => strs_at hi i v (by rw [Array.getElem?_toList]; exact hv)
        refine loopStrs ((Walks.tuple hh3 _ l hneI items).toS) s.heap.objs.size
          hSf xs hsz (by rw [← hsz]; exact hn1) hval (items.size - 0) 0 _ (by omega) (Nat.zero_le _)
          ⟨⟨_, Heap.get?_push_size _ rfl, rfl, rfl⟩, (hl1.push _)⟩ ?hS0 ?hR
        case hS0 =>
          have hget : ((s.heap.push { cls := .type "set", dict := none, data := .set #[] 0 (.fresh 0 0 (!w.params.followText "set-order")) }).push { cls := .type "tuple_iterator", data := .fields #[.ref l, .int 0 0] }).get? s.heap.objs.size
              = some { cls := .type "set", dict := none, data := .set #[] 0 (.fresh 0 0 (!w.params.followText "set-order")) } := Heap.get?_push_of_some _ hS
          exact ⟨0, Nat.le_refl _, setRS_fresh hget⟩
        case hR =>
          intro s' hm hS'
          obtain ⟨m, hm1, hS'⟩ := hS'
          obtain ⟨h', g', d', tk', os'⟩ := s'
          have eg : g' = s.gens := hm.gens
          have ed : d' = s.drawn := hm.drawn
          have eo : os' = s.os := hm.os
          subst eg; subst ed; subst eo
          show wpAny _ _ _ _ _ _
          refine wpAny_pure ?_
          show wpAny _ _ (ret Value.none) _ _ _
          rw [← hsz, List.take_length] at hS'
          refine wpAny_pure ⟨rfl, h', tk', m, rfl, by omega, hS', fun b o hb e => ?_⟩
          have hb1 : b ≠ s.heap.objs.size := Nat.ne_of_lt hb
          have hb2 : b ≠ (s.heap.push { cls := .type "set", dict := none, data := .set #[] 0 (.fresh 0 0 (!w.params.followText "set-order")) }).objs.size := by
            rw [Heap.size_push]; exact Nat.ne_of_lt (Nat.lt_succ_of_lt hb)
          exact hm.heap b o (by simp only [List.mem_cons, List.mem_singleton, List.not_mem_nil, or_false, not_or]; exact ⟨hb1, hb2⟩) (Heap.get?_push_of_some _ (Heap.get?_push_of_some _ e))

      · cases r₂ with
        | error e => exact hr₂
        | ok fl₂ =>
          cases fl₂ with
          | ret r =>
            obtain ⟨rfl, h', tk, m, rfl, hm1, hS', hk'⟩ := hr₂
            repeat (any_goals (first | assumption | wp_step))
            exact h _ _ _ hm1 hS' hk'
          | _ => exact hr₂.elim
    | _ => exact hr.elim
theorem sorted_listS {l : Addr} {vs : List Value} {ks : List Str} {Q : Value → Shared → Prop} (hl : s.heap.IsList l vs.toArray) (hI : StrsAre vs ks) (h64 : ks.length < 64)
    (hQ : ∀ s' p (out : Array Value) (c : Nat) (ns : List Str), (∀ b o, s.heap.get? b = some o → s'.heap.get? b = some o) → s'.gens = s.gens → s'.os = s.os → s.heap.objs.size ≤ p →
      s'.heap.get? p = some (seqObj "list" out c) → StrsAre out.toList ns → sortedS ns = true → ns.Perm ks → Q (.ref p) s') :
    wpAny (model prog w) A (call (.builtin "sorted") [.ref l]) Q E s := by
  have hvl : vs.length = ks.length := StrsAre.len_eq hI
  refine PySem.W.sorted_of_sort hl (by rw [hvl, sizeLine_eq]; omega) (args_sorted1 _) (fun _ => args_list_sort _) fun E' => ?_
  have hoL := PySem.W.copyHeap_at s.heap vs
  refine list_sort_treeK strKind_oneLt (s := { s with heap := PySem.W.copyHeap s.heap vs }) hoL hI.keysOf (fun v₁ v₂ rest e => keyKind_strs (by rw [← e]; exact hI)) (by rw [hvl]; exact h64) fun st' hp hs => ⟨rfl, ?_⟩
  obtain ⟨ys, q1, q2, q3⟩ := sorted_out_str hI hp hs
  obtain ⟨c, hc⟩ := sortedHeap_at (vs := vs) (out := (arrOf st').map (·.2)) hoL
  refine hQ _ (s.heap.objs.size + 1) ((arrOf st').map (·.2)) c ys (fun b u e => ?_) rfl rfl (Nat.le_succ _) hc q1 q3 q2
  exact sortedAll_old e
end
end SS
namespace L2
open PySem PySem.Spec PyProof.Rows
section
variable {X : Cx}
def rSetST (X : Cx) : List V → Hp → VK → Prop := fun xs H Q => ∃ (l : Addr) (ts : List Str), xs = [.ref l] ∧ (SqL X.K H l (ts.map V.str) ∨ SqT X.K H l (ts.map V.str)) ∧ ts.length < 64 ∧
  ∀ p m, m ≤ ts.length → H p = none → Q (.ref p) (upd H p (SetSO X.prog X.w p (fun k => ts.any (· == k)) m))
theorem cr_setST (hc : X.calm = true) : CallR X (.type "set") (rSetST X) := by
  intro pins s σ H xs us Q I r h
  obtain ⟨l, ts, rfl, hq, h64, q⟩ := h
  rcases hq with hq | hq
  · exact cr_setSS hc pins s σ H _ us Q I r ⟨l, ts, rfl, hq, h64, q⟩
  · obtain ⟨its, rv, pl, hz⟩ := I.tuple hq
    rw [Vals.ref1 r]
    refine SS.call_set_strsT (I.ok.hd hc) (show s.heap.IsTuple l its.toArray from pl) (by simpa using strsAre_of rv) h64 fun h' tk m hm1 hS hk => ?_
    have k : ∀ b o, s.heap.get? b = some o → h'.get? b = some o := fun b o e => hk b o (Heap.lt_size e) e
    exact ⟨.ref s.heap.objs.size, upd H s.heap.objs.size _, I.laid (t' := tk) k (Nat.le_refl _) (setSO_new hS), rfl, q _ m hm1 (I.hok.fresh (Nat.le_refl _))⟩
def rSortedLS (X : Cx) : List V → Hp → VK → Prop := fun vs H Q => ∃ (l : Addr) (ts : List Str), vs = [V.ref l] ∧ SqL X.K H l (ts.map V.str) ∧ ts.length < 64 ∧
  ∀ (ns : List Str) (p : Addr), sortedS ns = true → ns.Perm ts → H p = none → Q (.ref p) (upd H p (.lst (ns.map V.str)))
theorem cr_sortedLS : CallR X (.builtin "sorted") (rSortedLS X) := by
  intro pins s σ H vs us Q I r h
  obtain ⟨l, ts, rfl, hq, h64, q⟩ := h
  obtain ⟨its, rv, pl, hz⟩ := I.list hq
  rw [Vals.ref1 r]
  refine SS.sorted_listS pl.isList (by simpa using strsAre_of rv) h64 fun s' p out c ns k g o hp hg hi hs hm => ?_
  have hl : ns.length = ts.length := hm.length_eq
  have hlen : (ns.map V.str).length ≤ sizeLine := by rw [List.length_map, hl, sizeLine_eq]; omega
  have hn : H p = none := I.hok.fresh hp
  have J : Inv X pins σ (upd H p (.lst (ns.map V.str))) { s with heap := s'.heap, gens := s'.gens, drawn := s'.drawn, toks := s'.toks } :=
    I.call (ch := []) (Un.laid k hp hn) (I.hok.laid k hp ⟨hlen, out.toList, c, vals_of_strs hi, hg⟩) (by rw [g]; exact I.bare) (fun _ z => nomatch z)
  have e : s' = { s with heap := s'.heap, gens := s'.gens, drawn := s'.drawn, toks := s'.toks } := by
    cases s'
    cases s
    cases o
    rfl
  rw [e]
  exact ⟨.ref p, _, J, rfl, q ns p hs hm hn⟩
end
end L2

/-! VSI: enumerate of a tuple; sets of ints, sorted. -/
namespace EnT
open PySem PySem.Spec PyProof.Rows L2
theorem draws_tuple {prog : Program} {w : World} {A : Around} (hh : A.handled = none) (it l : Addr) (hne : l ≠ it) (items : Array Value) :
    Draws prog w A it [it, l] items.size (fun i v => items[i]? = some v) (fun i h => h.IsTupleIter it l i ∧ h.IsTuple l items) where
  live := fun _ _ st => let ⟨o, ho, _⟩ := st.1; ⟨o, ho⟩
  frame := fun _ _ _ st hk => ⟨st.1.at fun o e => hk it (by simp) o e, let ⟨o, ho, r⟩ := st.2; ⟨o, hk l (by simp) o ho, r⟩⟩
  item := fun i s Q E hi st hQ => by
    refine RZ.nextOf_tuple_item st.1 st.2 (x := items[i]) (by simp [hi]) fun h' hit' hs' => ?_
    exact hQ _ h' s.toks (by simp [hi]) ⟨hit', st.2.extBut hs'.extBut hne⟩ hs'
  done := fun s Q E st hE => RZ.nextOf_tuple_end hh st.1 st.2 (by simp) hE
theorem meets_enumerate_newT (l : Addr) (items : Array Value) (n : Nat) (dct : Option Addr) (sl : Array (Option Value)) :
    Meets (Builtin.«enumerate.__new__» ⟨[.type "enumerate", .ref l], []⟩) (fun _ R s => s.heap.get? l = some { cls := .type "tuple", dict := dct, data := .seq items n, slots := sl } ∧
      R (.ok (.ret (.ref (s.heap.push { cls := .type "tuple_iterator", data := .fields #[.ref l, .int 0 0] }).objs.size)))
        { s with heap := (s.heap.push { cls := .type "tuple_iterator", data := .fields #[.ref l, .int 0 0] }).push { cls := .type "enumerate", data := .fields #[.none, .bool false, .ref s.heap.objs.size, rawInt 0, .none, .none] } }) :=
  .of_wp fun prog w A R s h => by
    obtain ⟨hp, g, d, tk, os⟩ := s; obtain ⟨hl, h⟩ := h
    have hsub := sub_enumerate
    have hL : Heap.IsTuple (Shared.heap ⟨hp, g, d, tk, os⟩) l items := ⟨_, hl, rfl, n, rfl⟩
    wp_walk using AutoSeq1.wpAny_loadPart' hl
    refine wpAny_stack_any fun st => wpAny_pure ?_
    split
    · rename_i c _ _ _ _ _
      cases (c == Value.type "enumerate")
      · wp_walk using AutoSeq1.wpAny_loadPart' hl, wpAny_pyIter_tuple hL
        exact ⟨_, rfl, h⟩
      · wp_walk using AutoSeq1.wpAny_loadPart' hl, wpAny_pyIter_tuple hL
        exact ⟨_, rfl, h⟩
    · wp_walk using AutoSeq1.wpAny_loadPart' hl, wpAny_pyIter_tuple hL
      exact ⟨_, rfl, h⟩
section
variable {prog : Program} {w : World} {A : Around} {E : Value → Shared → Prop} {s : Shared}
theorem call_enumerate_tuple {l : Addr} {items : Array Value} {Q : Value → Shared → Prop} (hL : s.heap.IsTuple l items)
    (h : ∀ h', IsEnum h' (s.heap.objs.size + 1) s.heap.objs.size 0 .none → h'.IsTupleIter s.heap.objs.size l 0 → h'.objs.size = s.heap.objs.size + 2 →
      (∀ b o, s.heap.get? b = some o → h'.get? b = some o) → Q (.ref (s.heap.objs.size + 1)) { s with heap := h' }) :
    wpAny (model prog w) A (call (.type "enumerate") [.ref l]) Q E s := by
  obtain ⟨⟨c, dct, dt, sl⟩, hl, hc, n, hd⟩ := hL
  replace hc : c = .type "tuple" := hc
  replace hd : dt = .seq items n := hd
  subst hc hd
  refine callType_new PySem.F.called_enumerate (by decide) (PySem.F.typeCall_enumerate_1 _) (PySem.F.newCall_enumerate_1 _) (fun obj => PySem.F.args_object_init_2 obj _) PySem.F.entry_enumerate_new
    (meets_enumerate_newT l items n dct sl) ⟨hl, ?_⟩
  have hz : (s.heap.push { cls := .type "tuple_iterator", data := .fields #[.ref l, .int 0 0] }).objs.size = s.heap.objs.size + 1 := Heap.size_push ..
  show _ ∧ _
  rw [hz]
  have he : IsEnum ((s.heap.push { cls := .type "tuple_iterator", data := .fields #[.ref l, .int 0 0] }).push
      { cls := .type "enumerate", data := .fields #[.none, .bool false, .ref s.heap.objs.size, rawInt 0, .none, .none] }) (s.heap.objs.size + 1) s.heap.objs.size 0 .none := by
    have := Heap.get?_push_size (s.heap.push { cls := .type "tuple_iterator", data := .fields #[.ref l, .int 0 0] })
      (o := { cls := .type "enumerate", data := .fields #[.none, .bool false, .ref s.heap.objs.size, rawInt 0, .none, .none] }) rfl
    rw [hz] at this; exact this
  refine ⟨⟨_, he, rfl⟩, h _ he ⟨_, Heap.get?_push_of_some _ (Heap.get?_push_size _ rfl), rfl, rfl⟩ (by rw [Heap.size_push, hz]) fun b o x => Heap.get?_push_of_some _ (Heap.get?_push_of_some _ x)⟩
end
/-- the tuple at a, each item in a new pair -/
def IteT (K : PySem.W.Frag) (a : Addr) : It :=
  ⟨fun i H => ∃ (xs : List V) (x : V), SqT K H a xs ∧ xs[i]? = some x, fun i H v H' => ∃ T x, v = .ref T ∧ H T = none ∧ H' = upd H T (.tup [.int (i : Nat), x]) ∧ ∀ xs, SqT K H a xs → xs[i]? = some x, fun i H => ∃ xs : List V, SqT K H a xs ∧ xs.length ≤ i⟩
theorem turn_enumT {P : Program} {w : World} {K : PySem.W.Frag} {elts : List Expr} {kk : Nat} {tpos : Pos} (a e it : Addr) :
    Turn P w K (.Tuple elts kk tpos) (IteT K a) [e, it] e (fun i h => (∃ old, IsEnum h e it ((i : Nat) : Int) old) ∧ h.IsTupleIter it a i ∧ e ≠ it) where
  mem := by simp
  obj := fun i h st b hb => by
    obtain ⟨⟨old, he⟩, ⟨o, ho, hc, hd⟩, _⟩ := st
    have e' : b = e ∨ b = it := by simpa using hb
    rcases e' with z | z
    · rw [z]; exact ⟨_, he, fun v q => nomatch q⟩
    · rw [z]; exact ⟨o, ho, fun v q => by rw [hd] at q; cases q⟩
  keep := fun i h h' st k => let ⟨⟨old, he⟩, hi, hne⟩ := st; ⟨⟨old, k e (by simp) _ he⟩, hi.at fun o q => k it (by simp) o q, hne⟩
  item := by
    intro X hP hw hK hc i pins s σ H E I hf st hg
    subst hP hw hK
    obtain ⟨⟨old, he⟩, hit, hne⟩ := st
    obtain ⟨xs, x, hq, hx⟩ := hg
    obtain ⟨its, rv, p, hz⟩ := I.tuple hq
    have p : s.heap.IsTuple a its.toArray := p
    obtain ⟨u, hu, ru⟩ := rv.get hx
    have hel : e < s.heap.objs.size := Heap.lt_size he
    have hil : it < s.heap.objs.size := by obtain ⟨_, q, _⟩ := hit; exact Heap.lt_size q
    have hai : a ≠ it := fun z => by
      obtain ⟨o1, e1, c1, _⟩ := p
      obtain ⟨o2, e2, c2, _⟩ := id hit
      rw [z, e2] at e1
      cases e1
      rw [c1] at c2
      exact absurd c2 (by decide)
    have hea : e ≠ a := fun z => by
      obtain ⟨o1, e1, c1, _⟩ := p
      have he' : s.heap.get? e = some _ := he
      rw [z, e1] at he'
      have he' := Option.some.inj he'
      rw [he'] at c1
      exact absurd (show Value.type "enumerate" = Value.type "tuple" from c1) (by decide)
    have hlt : i < its.toArray.size := by
      rw [List.size_toArray]
      exact (List.getElem?_eq_some_iff.mp hu).1
    refine wpAny_pyNext_enum_itemD (draws_tuple (A := X.A.in1) (by simp [I.ok.hd hc]) it a hai its.toArray) he ⟨hit, p⟩ hlt hne (by simp [hne, hea]) fun y h' tk hy ho hst' hT hsz hk => ?_
    have ey : y = u := by
      have hy : its.toArray[i]? = some y := hy
      have hu' : its.toArray[i]? = some u := by simpa using hu
      rw [hu'] at hy
      exact (Option.some.inj hy).symm
    subst ey
    obtain ⟨hit', _⟩ := hst'
    refine ⟨_, rfl, wpAny_letOwnedTupleGo_enum (s := { s with heap := h', toks := tk + 1 }) ho fun h'' he' sb => ?_⟩
    have hT2 : h''.get? s.heap.objs.size = some { cls := .type "tuple", data := .seq #[.int i tk, y] } := (sb.2 _ (Nat.ne_of_gt hel)).trans hT
    have new : ObjOk X.prog X.w (upd H s.heap.objs.size (.tup [.int (i : Nat), x])) h'' s.heap.objs.size (.tup [.int (i : Nat), x]) :=
      ⟨by show 2 ≤ sizeLine; decide, [.int i tk, y], .cons ⟨_, rfl⟩ (.cons ru .nil), ⟨_, hT2, rfl, _, rfl⟩⟩
    have I1 : Inv X pins σ (upd H s.heap.objs.size (.tup [.int (i : Nat), x])) { s with heap := h'', toks := tk + 1 } :=
      I.turnedNew (ch := [e, it]) (fun b ob hb q => (sb.2 b (fun z => hb (by simp [z]))).trans (hk b ob (fun z => hb (by simp [z])) (fun z => hb (by simp [z])) q)) hf (Nat.le_refl _) new
    refine ⟨.ref s.heap.objs.size, _, I1, rfl, ⟨_, x, rfl, I.hok.fresh (Nat.le_refl _), rfl, fun ys hy => by rw [I.tuple_inj hy hq]; exact hx⟩, ⟨⟨y, ?_⟩, hit'.at fun o q => (sb.2 it (Ne.symm hne)).trans q, hne⟩, fun b hb => ?_⟩
    · have e1 : ((i + 1 : Nat) : Int) = (i : Int) + 1 := by omega
      rw [e1]; exact he'
    · have hb' : b < s.heap.objs.size := by
        have e' : b = e ∨ b = it := by simpa using hb
        rcases e' with z | z
        · rw [z]; exact hel
        · rw [z]; exact hil
      rw [upd_ne (Nat.ne_of_lt hb')]
      exact (hf b hb).1
  done := by
    intro X hP hw hK hc i pins s σ H E I hf st hg
    subst hP hw hK
    obtain ⟨⟨old, he⟩, hit, hne⟩ := st
    obtain ⟨xs, hq, hx⟩ := hg
    obtain ⟨its, rv, p, hz⟩ := I.tuple hq
    have p : s.heap.IsTuple a its.toArray := p
    obtain ⟨f0, f1, f2, f3, f4, f5⟩ := hf it (by simp)
    have hl := rv.length
    have hai : a ≠ it := fun z => by
      obtain ⟨o1, e1, c1, _⟩ := p
      obtain ⟨o2, e2, c2, _⟩ := id hit
      rw [z, e2] at e1
      cases e1
      rw [c1] at c2
      exact absurd c2 (by decide)
    unfold pyNext
    have hTy : s.TypeIs (.ref e) "enumerate" := ⟨_, he, rfl⟩
    refine wpAny_bind (wpAny_attempt (wpAny_callSpecial?_slot (name := Str.ofString "__next__") hTy PySem.F.slot_enumerate_next
      (wpAny_call_entry PySem.F.slot_enumerate_next hTy PySem.F.entry_enumerate_next ?_ (PySem.F.args_enumerate_next_1 _))))
    show wpAny _ _ (field (.ref e) 2 >>= _) _ _ _
    refine wpAny_bind (wpAny_field he rfl (x := .ref it) rfl ?_)
    refine wpAny_bind (RZ.nextOf_tuple_end (by simp [I.ok.hd hc]) hit p (by simp; omega) fun h' x he' hx' => ?_)
    obtain ⟨o, ho, hc'⟩ := hx'
    refine wpAny_bind (wpAny_isInstance (T := "StopIteration") (b := true) ⟨o, ho, hc'⟩ isSubtype_stop ?_)
    exact wpAny_pure ⟨rfl, I.turned (t' := s.toks) (fun b o hb q => he' b o hb q) f0 f1 f3 f4 f5⟩
  self := fun A i s Q E st h => let ⟨⟨_, he⟩, _⟩ := st; wpAny_pyIter_enum he h
/-- enumerate of a list or a tuple -/
def iEnumA (K : PySem.W.Frag) (ta : TA) : TI := fun σ H R => ta σ H fun vs H1 => ∃ a xs, vs = [.ref a] ∧ ((SqL K H1 a xs ∧ R (Ite K a) H1) ∨ (SqT K H1 a xs ∧ R (IteT K a) H1))
theorem pi_enumA {X : Cx} {e : Expr} {ta : TA} {p pos tpos : Pos} {elts : List Expr} {kk : Nat} (hg : Gl X "enumerate") (hm : X.mg "enumerate" = none) (ha : PA X [e] ta) (hs : starEach [e] X.env = [(false, eval e X.env)] := by rfl) :
    PI X (.Tuple elts kk tpos) (.Call (.Name "enumerate" p) [e] [] pos) (iEnumA X.K ta) := by
  refine ⟨fun pins s σ H R I h => ?_⟩
  refine Call_ (ld_blt I hg hm boot_enumerate (PyProof.Rows.callWith_type1 (thn (ha.run pos pins s σ H _ I h) fun us s1 ⟨vs, H1, I1, r1, q1⟩ => ?_) hs rfl))
  obtain ⟨a, xs, ex, q⟩ := q1
  subst ex
  cases r1 with
  | cons r rr =>
    cases rr
    cases r
    have fp : ∀ b ∈ [s1.heap.objs.size + 1, s1.heap.objs.size], FpOk X pins H1 b := fun b hb => by
      have e' : b = s1.heap.objs.size + 1 ∨ b = s1.heap.objs.size := by simpa using hb
      have hle : s1.heap.objs.size ≤ b := by
        rcases e' with z | z
        · rw [z]; exact Nat.le_add_right _ _
        · rw [z]; exact Nat.le_refl _
      exact I1.fpOk hle (I1.hok.fresh hle)
    rcases q with ⟨hq, q⟩ | ⟨hq, q⟩
    · obtain ⟨its, rv, p', hz⟩ := I1.list hq
      refine call_enumerate_list p'.isList fun h' he hit hsz hk => wpAny_pyIter_enum he ?_
      have I2 : Inv X pins σ H1 { s1 with heap := h' } := I1.kept (t' := s1.toks) hk
      exact ⟨s1.heap.objs.size + 1, [s1.heap.objs.size + 1, s1.heap.objs.size], _, _, H1, rfl, I2, turn_enum a (s1.heap.objs.size + 1) s1.heap.objs.size, ⟨⟨.none, he⟩, hit, Nat.succ_ne_self _⟩, fp, q⟩
    · obtain ⟨its, rv, p', hz⟩ := I1.tuple hq
      refine call_enumerate_tuple (show s1.heap.IsTuple a its.toArray from p') fun h' he hit hsz hk => wpAny_pyIter_enum he ?_
      have I2 : Inv X pins σ H1 { s1 with heap := h' } := I1.kept (t' := s1.toks) hk
      exact ⟨s1.heap.objs.size + 1, [s1.heap.objs.size + 1, s1.heap.objs.size], _, _, H1, rfl, I2, turn_enumT a (s1.heap.objs.size + 1) s1.heap.objs.size, ⟨⟨.none, he⟩, hit, Nat.succ_ne_self _⟩, fp, q⟩
end EnT
namespace SI
open PySem PySem.Spec PyProof.Rows
open L2 (SetR SetR.at SetR.congr setR_add_hashed)
theorem setR_freshH {h : Heap} {w : World} {a : Addr} (ho : h.get? a = some { cls := .type "set", dict := none, data := .set #[] 0 (.fresh 0 0 (!w.params.followText "set-order")) }) : SetR w h a (fun _ => false) 0 :=
  ⟨_, #[], 0, _, ho, ⟨rfl, rfl, rfl⟩, rfl, (fun e he => by simp at he), (by simp), (fun k => by simp), (by decide), (by rfl), rfl, List.Pairwise.nil, by
    show _ ∨ (!w.params.followText "set-order") = true
    cases w.params.followText "set-order"
    · exact .inr rfl
    · exact .inl rfl⟩
section
variable {prog : Program} {w : World} {A : Around} {R : Result → Shared → Prop} {I : Addr} {fp wr : List Addr} {G : Array GenState → Array GenState → Prop} {n : Nat} {P : Nat → Value → Prop} {St : Nat → Shared → Prop}
theorem loopInts (W : WalksS prog w A.in1 I fp wr G n P St) (S : Addr) (hSf : S ∉ fp) (xs : List Int) (hsz : xs.length = n) (hn1 : n < 64)
    (hval : ∀ i v, P i v → ∃ t, v = .int (xs.getD i 0) t) :
    ∀ (k i : Nat) (s : Shared), n - i = k → i ≤ n → St i s →
      (∃ m, m ≤ i ∧ SetR w s.heap S (fun k' => (xs.take i).any (· == k')) m) →
      (∀ s', Moved (S :: wr) G s s' → (∃ m, m ≤ n ∧ SetR w s'.heap S (fun k' => (xs.take n).any (· == k')) m) → R (.ok (.ret .none)) s') →
      codeAny (model prog w) A (.builtin "set.update.loop" ⟨[.ref S, .ref I], []⟩) R s := by
  have hSw : S ∉ wr := fun h => hSf (W.sub _ h)
  have hsub : ∀ b ∈ wr, b ∈ S :: wr := fun b hb => List.mem_cons_of_mem _ hb
  intro k
  induction k with
  | zero =>
    intro i s hk hi hst ⟨m, hm1, hS⟩ hR
    have hin : i = n := by omega
    subst hin
    refine codeAny_builtin PyProof.Rows.F.entry_set_update_loop ?_
    rw [Around.under_plainId PyProof.Rows.F.plain_set_update_loop _]
    show wpAny _ A.in1 (pyNext (.ref I) >>= _) _ _ s
    refine wpAny_bind (W.done s _ _ hst fun s' hm => ?_)
    show wpAny _ A.in1 (ret Value.none) _ _ s'
    exact wpAny_pure (hR s' (hm.mono hsub) ⟨m, hm1, hS.at fun o e => hm.heap S o hSw e⟩)
  | succ k ih =>
    intro i s hk hi hst ⟨m, hm1, hS⟩ hR
    have hlt : i < n := by omega
    refine codeAny_builtin PyProof.Rows.F.entry_set_update_loop ?_
    rw [Around.under_plainId PyProof.Rows.F.plain_set_update_loop _]
    show wpAny _ A.in1 (pyNext (.ref I) >>= _) _ _ s
    refine wpAny_bind (W.item i s _ _ hlt hst fun v s' hP hst' hm => ?_)
    obtain ⟨t, rfl⟩ := hval i v hP
    have hS' : SetR w s'.heap S (fun k' => (xs.take i).any (· == k')) m := hS.at fun o e => hm.heap S o hSw e
    show wpAny _ A.in1 (holding [Value.int (xs.getD i 0) t] (setAdd S (.int (xs.getD i 0) t)) >>= _) _ _ s'
    refine wpAny_bind (wpAny_holding ?_)
    unfold setAdd
    refine wpAny_holding ?_
    refine wpAny_bind ((PySem.intKind prog w).pyHash (k := xs.getD i 0) (intKind_is _ _ _ _) ?_)
    refine setR_add_hashed (s := { s' with toks := s'.toks + 1 }) hS' (by unfold scanBound; omega) fun h' hsb hS2 => ?_
    have hxi : xs[i]? = some (xs.getD i 0) := by
      rw [List.getD_eq_getElem?_getD, List.getElem?_eq_getElem (by omega)]
      rfl
    have hSi : ∃ m, m ≤ i + 1 ∧ SetR w h' S (fun k' => (xs.take (i + 1)).any (· == k')) m := by
      refine ⟨_, ?_, hS2.congr (fun k' => ?_)⟩
      · split <;> omega
      · rw [List.take_add_one, hxi, List.any_append]
        show (_ || ((xs.getD i 0 == k') || false)) = _
        rw [Bool.or_false]
        congr 1
        by_cases e : k' = xs.getD i 0
        · rw [e]; simp
        · have hb : (xs.getD i 0 == k') = false := beq_eq_false_iff_ne.mpr fun z => e z.symm
          rw [hb, decide_eq_false e]
    refine wpAny_pure ⟨plainId_quiet PyProof.Rows.F.plain_set_update_loop _, ih (i + 1) _ (by omega) hlt (W.frame _ s' _ _ hst' (Nat.le_succ _) fun b hb o e => ?_) hSi fun s'' hm'' hS'' => ?_⟩
    · rw [hsb.2 b (fun h : b = S => hSf (by rw [← h]; exact hb))]; exact e
    · refine hR s'' (Moved.trans W.gtrans ((hm.mono hsub).then_heap (Nat.le_succ _) fun b o hb e => ?_) hm'') hS''
      rw [hsb.2 b (fun h : b = S => hb (by rw [h]; exact List.mem_cons_self))]; exact e
end

section
variable {prog : Program} {w : World} {A : Around} {E : Value → Shared → Prop} {s : Shared}
open L2
theorem call_set_ints {l : Addr} {items : Array Value} {xs : List Int} {Q : Value → Shared → Prop}
    (hh : A.handled = none) (hl : s.heap.IsList l items) (hi : PyProof.Rows.IntsAre items.toList xs) (hn1 : xs.length < 64)
    (h : ∀ (h' : Heap) (tk m : Nat), m ≤ xs.length → SetR w h' s.heap.objs.size (fun k' => xs.any (· == k')) m →
      (∀ b o, b < s.heap.objs.size → s.heap.get? b = some o → h'.get? b = some o) → Q (.ref s.heap.objs.size) { s with heap := h', toks := tk }) :
    wpAny (model prog w) A (call (.type "set") [.ref l]) Q E s := by
  obtain ⟨c, tl, hmro⟩ := PySem.F.called_set.mro
  have hmade := PySem.F.called_set.made
  have hsub := PySem.F.called_set.sub
  have hsz : xs.length = items.size := by rw [← IntsAre.length hi, Array.length_toList]
  refine wpAny_call (codeAny_of_tree ?_)
  show wpAny _ _ (callAny (.type "set") _) _ _ _
  refine wpAny_pure ⟨Code.quiet_builtin _ (by decide +kernel), codeAny_builtin PySem.F.entry_type_call ?_⟩
  rw [Around.under_plain (weight_type_call_type "set" [.ref l] []) rfl]
  have h1 := PySem.F.called_set.notType
  have h2 := PySem.F.called_set.canCreate
  have hct := PySem.F.typeCall_set_1 (.ref l)
  repeat (any_goals (first | assumption | wp_step))

  refine codeAny_mono (code_set_led1 (.ref l) (E := E) (Q₁ := fun obj s₁ => obj = .ref s.heap.objs.size ∧ s₁ = { s with heap := s.heap.push { cls := .type "set", dict := none, data := .set #[] 0 (.fresh 0 0 (!w.params.followText "set-order")) } }) ⟨rfl, rfl⟩) fun r s₁ hr => ?_
  cases r with
  | error e => exact hr
  | ok fl =>
    cases fl with
    | ret obj =>
      obtain ⟨rfl, rfl⟩ := hr
      have hS : (s.heap.push { cls := .type "set", dict := none, data := .set #[] 0 (.fresh 0 0 (!w.params.followText "set-order")) }).get? s.heap.objs.size = some { cls := .type "set", dict := none, data := .set #[] 0 (.fresh 0 0 (!w.params.followText "set-order")) } := Heap.get?_push_size _ rfl
      have hT : Shared.TypeIs { s with heap := s.heap.push { cls := .type "set", dict := none, data := .set #[] 0 (.fresh 0 0 (!w.params.followText "set-order")) } } (.ref s.heap.objs.size) "set" := ⟨_, hS, rfl⟩
      have hli := PySem.F.called_set.init.lookup
      have hbi := PySem.F.called_set.init.bind (.ref s.heap.objs.size)
      repeat (any_goals (first | assumption | wp_step))

      refine codeAny_mono (codeAny_call_builtin (R := wants (fun r s₂ => r = .none ∧ ∃ h' tk m, s₂ = { s with heap := h', toks := tk } ∧ m ≤ xs.length ∧
          SetR w h' s.heap.objs.size (fun k' => xs.any (· == k')) m ∧
          (∀ b o, b < s.heap.objs.size → s.heap.get? b = some o → h'.get? b = some o)) E) PySem.F.called_set.init.plain PySem.F.entry_set_init (check_set_init_1 hT ?_)) fun r₂ s₂ hr₂ => ?_
      · obtain ⟨ol, hol, hcl, nl, hdl⟩ := hl
        obtain ⟨ocls, odict, odata, oslots⟩ := ol
        simp only at hcl hdl
        subst hcl; subst hdl
        have hol' : (s.heap.push { cls := .type "set", dict := none, data := .set #[] 0 (.fresh 0 0 (!w.params.followText "set-order")) }).get? l = some { cls := .type "list", dict := odict, data := .seq items nl, slots := oslots } := Heap.get?_push_of_some _ hol
        have hsls := PySem.F.sub_list_set
        have hslf := PySem.F.sub_list_frozenset
        have hne : (Value.type "list" == Value.type "dict") = false := by decide
        have hl1 : (s.heap.push { cls := .type "set", dict := none, data := .set #[] 0 (.fresh 0 0 (!w.params.followText "set-order")) }).IsList l items := ⟨_, hol', rfl, nl, rfl⟩
        unfold Builtin.«set.__init__» noKeywords Builtin.Frozenset.updateFrom
        generalize hPI : pyIter = PI
        wp_walk
        subst hPI

        refine wpAny_pyIter_list hl1 ?_
        refine wpAny_bind (wpAny_runValue ?_)
        have hlS : l < s.heap.objs.size := Heap.lt_size hol
        have hh3 : A.in1.in1.in1.handled = none := by simp [hh]
        have hneI : l ≠ (s.heap.push { cls := .type "set", dict := none, data := .set #[] 0 (.fresh 0 0 (!w.params.followText "set-order")) }).objs.size := by
          rw [Heap.size_push]; exact Nat.ne_of_lt (Nat.lt_succ_of_lt hlS)
        have hSf : s.heap.objs.size ∉ [(s.heap.push { cls := .type "set", dict := none, data := .set #[] 0 (.fresh 0 0 (!w.params.followText "set-order")) }).objs.size, l] := by
          rw [Heap.size_push]; simp only [List.mem_cons, List.mem_singleton, List.not_mem_nil, or_false, not_or]
          exact ⟨Nat.ne_of_lt (Nat.lt_succ_self _), Nat.ne_of_gt hlS⟩
        have hval : ∀ (i : Nat) (v : Value), items[i]? = some v → ∃ t, v = .int (xs.getD i 0) t := fun i v hv => PyProof.Rows.IntsAre.int_at hi i v (by rw [Array.getElem?_toList]; exact hv)
        refine loopInts ((Walks.list hh3 _ l hneI items).toS) s.heap.objs.size
          hSf xs hsz (by rw [← hsz]; exact hn1) hval (items.size - 0) 0 _ (by omega) (Nat.zero_le _)
          ⟨⟨_, Heap.get?_push_size _ rfl, rfl, rfl⟩, (hl1.push _)⟩ ?hS0 ?hR
        case hS0 =>
          have hget : ((s.heap.push { cls := .type "set", dict := none, data := .set #[] 0 (.fresh 0 0 (!w.params.followText "set-order")) }).push { cls := .type "list_iterator", data := .fields #[.ref l, .int 0 0] }).get? s.heap.objs.size
              = some { cls := .type "set", dict := none, data := .set #[] 0 (.fresh 0 0 (!w.params.followText "set-order")) } := Heap.get?_push_of_some _ hS
          exact ⟨0, Nat.le_refl _, setR_freshH hget⟩
        case hR =>
          intro s' hm hS'
          obtain ⟨m, hm1, hS'⟩ := hS'
          obtain ⟨h', g', d', tk', os'⟩ := s'
          have eg : g' = s.gens := hm.gens
          have ed : d' = s.drawn := hm.drawn
          have eo : os' = s.os := hm.os
          subst eg; subst ed; subst eo
          show wpAny _ _ _ _ _ _
          refine wpAny_pure ?_
          show wpAny _ _ (ret Value.none) _ _ _
          rw [← hsz, List.take_length] at hS'
          refine wpAny_pure ⟨rfl, h', tk', m, rfl, by omega, hS', fun b o hb e => ?_⟩
          have hb1 : b ≠ s.heap.objs.size := Nat.ne_of_lt hb
          have hb2 : b ≠ (s.heap.push { cls := .type "set", dict := none, data := .set #[] 0 (.fresh 0 0 (!w.params.followText "set-order")) }).objs.size := by
            rw [Heap.size_push]; exact Nat.ne_of_lt (Nat.lt_succ_of_lt hb)
          exact hm.heap b o (by simp only [List.mem_cons, List.mem_singleton, List.not_mem_nil, or_false, not_or]; exact ⟨hb1, hb2⟩) (Heap.get?_push_of_some _ (Heap.get?_push_of_some _ e))

      · cases r₂ with
        | error e => exact hr₂
        | ok fl₂ =>
          cases fl₂ with
          | ret r =>
            obtain ⟨rfl, h', tk, m, rfl, hm1, hS', hk'⟩ := hr₂
            repeat (any_goals (first | assumption | wp_step))
            exact h _ _ _ hm1 hS' hk'
          | _ => exact hr₂.elim
    | _ => exact hr.elim
end
end SI
namespace L2
open PySem PySem.Spec PyProof.Rows
section
variable {X : Cx}
def rSetSI (X : Cx) : List V → Hp → VK → Prop := fun xs H Q => ∃ (l : Addr) (ts : List Int), xs = [.ref l] ∧ SqL X.K H l (ts.map V.int) ∧ ts.length < 64 ∧
  ∀ p m, m ≤ ts.length → H p = none → Q (.ref p) (upd H p (SetO X.w p (fun k => ts.any (· == k)) m))
theorem cr_setSI (hc : X.calm = true) : CallR X (.type "set") (rSetSI X) := by
  intro pins s σ H xs us Q I r h
  obtain ⟨l, ts, rfl, hq, h64, q⟩ := h
  obtain ⟨its, rv, pl, hz⟩ := I.list hq
  rw [Vals.ref1 r]
  refine SI.call_set_ints (I.ok.hd hc) pl.isList (by simpa using intsAre_of rv) h64 fun h' tk m hm1 hS hk => ?_
  have k : ∀ b o, s.heap.get? b = some o → h'.get? b = some o := fun b o e => hk b o (Heap.lt_size e) e
  exact ⟨.ref _, upd H s.heap.objs.size _, I.laid (t' := tk) k (Nat.le_refl _) (setO_new hS), rfl, q _ m hm1 (I.hok.fresh (Nat.le_refl _))⟩
end
end L2

/-! VI11: the soundness of expressions: calls, iterables, comprehensions. -/
namespace VI
open PySem PySem.Spec PyProof.Rows L2
theorem backTo_any {pos : Pos} : ∀ {l : List (Bool × PySem.Sem Value)}, l.any (·.1) = false → (backTo pos l).any (·.1) = false := by
  intro l h
  unfold backTo
  rw [List.any_map]
  exact h
section
variable {tb : Tb}
theorem any_tail {e : Expr} {es : List Expr} {env : Env} (h : notStar e = true) (q : (starEach (e :: es) env).any (·.1) = false) : (starEach es env).any (·.1) = false := by
  rw [star_of h, List.any_cons] at q
  exact q
theorem l_star {c : Ctx} {r : IE} {e : Expr} {es : List Expr} (h : (ck r c).l (e :: es) = true) : notStar e = true := let ⟨_, _, _, q, _, _⟩ := l_cons h; q
theorem l_star2 {c : Ctx} {r : IE} {e f : Expr} {es : List Expr} (h : (ck r c).l (e :: f :: es) = true) : notStar f = true := let ⟨_, _, _, _, _, q⟩ := l_cons h; l_star q
theorem snd_call (n : Nat) {r : IE} (hr : Snd tb r) : Snd tb (.call n r) := sndE (f := fun c e => match e with
      | .Call (.Name f _) es [] _ => decide (c.fns[n]? = some (f, es.length)) && (glB c.sc f && (okNm f && (ck r c).l es))
      | _ => false) (fun c X cx e h => by
  split at h
  · rename_i f pf es pos
    obtain ⟨h1, hA⟩ := band h
    obtain ⟨h2, hB⟩ := band hA
    obtain ⟨h3, h4⟩ := band hB
    clear h hA hB
    have h1 := of_decide_eq_true h1
    rw [cx.fns, List.getElem?_map] at h1
    cases hq : tb.fn[n]? with
    | none => rw [hq] at h1; cases h1
    | some q =>
      rw [hq] at h1
      obtain ⟨qn, qa, qs⟩ := q
      have h1 : some (qn, qa) = some (f, es.length) := h1
      cases h1
      obtain ⟨fa, fd, ps, k, F, hr0, hm, hk, hb⟩ := (cx.ok n _ hq).ok
      have hs : tb.sem n = qs := by
        unfold Tb.sem
        rw [hq]
      have main : ∀ σ H Q, TEs X.K tb (.call n r) σ H Q → tCall (spG X.K es.length qs) [] E0 (TLs X.K tb r es.length) σ H Q := fun σ H Q ⟨w, st, env, ok, er, h⟩ => by
        refine bL cx.mono r ok er h fun evs st1 q vs H1 w1 le1 ok1 r1 hl => ?_
        obtain ⟨ri, q⟩ := r1.inner q
        rw [hs] at q
        refine ⟨by rw [List.append_nil]; exact hl, w1.inner st1, st1.g, evs, rfl, ok1.inner, by rw [List.append_nil]; exact ri, ?_⟩
        have mq : qs evs st1.g (fun v g => PostW X.K H w st Q v ⟨g, st1.l⟩) := q
        have mm : SemMono qs := by rw [← hs]; exact cx.mono n
        refine mm _ _ _ _ (fun ev g hk' v H' w' hla le ok' r' => ?_) mq
        obtain ⟨a, b, d⟩ := outer_of ok1 hla le ok'
        exact hk' v H' _ (le1.trans a) b (d v ev r')
      cases es with
      | nil =>
        have e0 := l_nil h4
        subst e0
        refine PE.mono (pe_callG0 F hr0 cx.xo.gd (gl_of cx.sc h2) hm hk hb (okNm_of h3).1) fun σ H Q h => ?_
        obtain ⟨w, st, env, ok, er, h⟩ := h
        exact main σ H Q ⟨w, st, env, ok, er, h⟩ |> fun ⟨w', st', env', ok', er', h'⟩ => h' [] H w' Le.refl ok' .nil rfl
      | cons e es =>
        have h5 := l_star h4
        obtain ⟨p1, p2⟩ := hr.l c X cx _ h4
        exact PE.mono (pe_callG F hr0 cx.xo.gd (gl_of cx.sc h2) hm hk hb p1 (okNm_of h3).1 (star_of h5) (backTo_any (any_tail h5 (p2 _)))) main
  · cases h) (fun _ => rfl)
theorem starAny_of {env : Env} : ∀ {es : List Expr}, es.any isStarE = true → (starEach es env).any (·.1) = true
  | [], h => by cases h
  | e :: es, h => by
    cases e with
    | Starred e p =>
      show (((true, eval e env) : Bool × PySem.Sem Value) :: starEach es env).any (·.1) = true
      rfl
    | _ =>
      have h : es.any isStarE = true := h
      have q := starAny_of (env := env) h
      rw [star_of rfl, List.any_cons, q, Bool.or_true]
theorem backTo_anyT {pos : Pos} {l : List (Bool × PySem.Sem Value)} (h : l.any (·.1) = true) : (backTo pos l).any (·.1) = true := by
  unfold backTo
  rw [List.any_map]
  exact h
theorem snd_blt (b : Blt) (kd : Nat) {r : IE} (hr : Snd tb r) : Snd tb (.blt b kd r) := sndE (f := fun c e => match e with
      | .Call (.Name f _) (e :: es) [] _ => decide (f = bltN b) && ((c.gcd.g || decide (b ≠ .gcd)) && (c.gcd.i || decide (b ≠ .isqrt)) && (glB c.sc f && (ck r c).l (e :: es)))
      | _ => false) (fun c X cx e h => by
  split at h
  · rename_i f pf e es pos
    obtain ⟨h1, hA⟩ := band h
    obtain ⟨h2, hB⟩ := band hA
    obtain ⟨h3, h4⟩ := band hB
    clear h hA hB
    have h1 := of_decide_eq_true h1
    subst h1
    have h5 := l_star h4
    obtain ⟨p1, p2⟩ := hr.l c X cx _ h4
    have st := star_of (es := es) (env := X.env) h5
    have bk := backTo_any (pos := pos) (any_tail h5 (p2 X.env))
    have hg := gl_of cx.sc h3
    have main : ∀ σ H Q, TEs X.K tb (.blt b kd r) σ H Q → tCB (rBlt X.K b kd) (TLs X.K tb r (e :: es).length) σ H Q := fun σ H Q ⟨w, st, env, ok, er, h⟩ =>
      bL cx.mono r ok er h fun evs st1 q vs H1 w1 le1 ok1 r1 hl => ⟨w1, st1, evs, ok1, r1, bltK_mono (fun ev st2 hz v H' w' le2 ok2 r2 => hz v H' w' (le1.trans le2) ok2 r2) q⟩
    have cb := call_blt (X := X) cx.xo b kd
    cases b with
    | str => exact PE.mono (pe_callTy cb hg (cx.mgn _ (by decide)) (by decide +kernel) p1 (by decide) (by decide) st bk) main
    | len => exact PE.mono (pe_callB cb hg (cx.mgn _ (by decide)) (by decide +kernel) p1 (by decide) (by decide) st bk) main
    | abs => exact PE.mono (pe_callB cb hg (cx.mgn _ (by decide)) (by decide +kernel) p1 (by decide) (by decide) st bk) main
    | int => exact PE.mono (pe_callTy cb hg (cx.mgn _ (by decide)) (by decide +kernel) p1 (by decide) (by decide) st bk) main
    | min2 => exact PE.mono (pe_callB cb hg (cx.mgn _ (by decide)) (by decide +kernel) p1 (by decide) (by decide) st bk) main
    | max2 => exact PE.mono (pe_callB cb hg (cx.mgn _ (by decide)) (by decide +kernel) p1 (by decide) (by decide) st bk) main
    | min3 => exact PE.mono (pe_callB cb hg (cx.mgn _ (by decide)) (by decide +kernel) p1 (by decide) (by decide) st bk) main
    | max3 => exact PE.mono (pe_callB cb hg (cx.mgn _ (by decide)) (by decide +kernel) p1 (by decide) (by decide) st bk) main
    | maxL => exact PE.mono (pe_callB cb hg (cx.mgn _ (by decide)) (by decide +kernel) p1 (by decide) (by decide) st bk) main
    | minL => exact PE.mono (pe_callB cb hg (cx.mgn _ (by decide)) (by decide +kernel) p1 (by decide) (by decide) st bk) main
    | gcd =>
      have hgc : c.gcd.g = true := by
        rcases Bool.or_eq_true_iff.mp (band h2).1 with z | z
        · exact z
        · exact absurd rfl (of_decide_eq_true z)
      exact PE.mono (pe_callBfun cb hg (cx.gcd hgc) p1 (by decide) st bk) main
    | isqrt =>
      have hgc : c.gcd.i = true := by
        rcases Bool.or_eq_true_iff.mp (band h2).2 with z | z
        · exact z
        · exact absurd rfl (of_decide_eq_true z)
      exact PE.mono (pe_callBfun cb hg (cx.isq hgc) p1 (by decide) st bk) main
    | all => exact PE.mono (pe_callB cb hg (cx.mgn _ (by decide)) (by decide +kernel) p1 (by decide) (by decide) st bk) main
    | any => exact PE.mono (pe_callB cb hg (cx.mgn _ (by decide)) (by decide +kernel) p1 (by decide) (by decide) st bk) main
    | tuple => exact PE.mono (pe_callTy cb hg (cx.mgn _ (by decide)) (by decide +kernel) p1 (by decide) (by decide) st bk) main
    | list => exact PE.mono (pe_callTy cb hg (cx.mgn _ (by decide)) (by decide +kernel) p1 (by decide) (by decide) st bk) main
    | repr => exact PE.mono (pe_callB cb hg (cx.mgn _ (by decide)) (by decide +kernel) p1 (by decide) (by decide) st bk) main
  · cases h) (fun _ => rfl)
/-! ### iterables -/
/-- what is only walked -/
theorem sndI {ie : IE} {f : Ctx → Expr → Expr → Bool} (hi : ∀ c X, CxOk tb c X → ∀ tg it, f c tg it = true → PI X tg it (TIs X.K tb ie)) (hc : ∀ c, ck ie c = { noCK with i := f c }) : Snd tb ie where
  e := fun c X cx e h => by rw [hc] at h; exact ff h
  t := fun c X cx e h => by rw [hc] at h; exact ff h
  l := fun c X cx e h => by rw [hc] at h; exact ff h
  i := fun c X cx tg it h => hi c X cx tg it (by rw [hc] at h; exact h)
  g := fun c X cx e h => by rw [hc] at h; exact ff h
  gl := fun c X cx e h => by rw [hc] at h; exact ff h
  o := fun c X cx e h => by rw [hc] at h; exact ff h
theorem Ys.downto {K : PySem.W.Frag} {H : Hp} {w : Wd} {st : Sto} (hi : Int) (n : Nat) : Ys K (Itc hi (-1) n) H w st (downto hi n) := fun H' w' st' le ok i => by
  unfold VI.downto
  refine ⟨fun h => ?_, fun x hx => ?_⟩
  · have h' : n ≤ i := by simpa using h
    exact h'
  rw [List.getElem?_map] at hx
  by_cases hi : i < n
  · rw [List.getElem?_range hi] at hx
    cases hx
    refine ⟨hi, fun v H2 ⟨e1, e2⟩ => ?_⟩
    subst e1 e2
    refine ⟨Le.refl, ok, ?_⟩
    rw [show ∀ z : Int, z + (i : Int) * (-1) = z - (i : Nat) by intro z; omega]
    exact .int _
  · rw [List.getElem?_eq_none (by simpa using hi)] at hx
    cases hx
theorem snd_rng {r : IE} (hr : Snd tb r) : Snd tb (.rng r) := sndI (f := fun c _ it => match it with
      | .Call (.Name f _) [x] [] _ => decide (f = "range") && (glB c.sc f && (ck r c).l [x])
      | .Call (.Name f _) [x, y] [] _ => decide (f = "range") && (glB c.sc f && (ck r c).l [x, y])
      | .Call (.Name f _) [x, y, z] [] _ => decide (f = "range") && (glB c.sc f && (ck r c).l [x, y, z])
      | _ => false) (fun c X cx tg it h => by
  split at h
  · obtain ⟨h1, h2⟩ := band h
    obtain ⟨h2, h3⟩ := band h2
    have h1 := of_decide_eq_true h1
    subst h1
    have h5 := l_star h3
    refine PI.mono (pi_range1 (gl_of cx.sc h2) (cx.mgn _ (by decide)) (hr.l c X cx _ h3).1 (star_of h5)) fun σ H R ⟨w, st, env, ok, er, h⟩ => ?_
    refine bL cx.mono r ok er h fun evs st1 q vs H1 w1 le1 ok1 r1 hl => ?_
    unfold rngK at q
    split at q
    · obtain ⟨v, rfl, rv⟩ := evreps1 r1
      cases (show Rep _ _ _ v _ from rv)
      exact ⟨_, rfl, q.1.1, q.1.2, q.2 _ H1 w1 le1 ok1 (Ys.range _ _)⟩
    · obtain ⟨v, u, rfl, rv, ru⟩ := evreps2 r1
      exact absurd hl (by simp)
    · obtain ⟨v, u, x, rfl, rv, ru, rx⟩ := evreps3 r1
      exact absurd hl (by simp)
    · exact q.elim
  · obtain ⟨h1, h2⟩ := band h
    obtain ⟨h2, h3⟩ := band h2
    have h1 := of_decide_eq_true h1
    subst h1
    have h5 := l_star h3
    have h7 := l_star2 h3
    refine PI.mono (pi_range2 (gl_of cx.sc h2) (cx.mgn _ (by decide)) (hr.l c X cx _ h3).1 (by rw [star_of h5, star_of h7]; rfl) (star_of h7)) fun σ H R ⟨w, st, env, ok, er, h⟩ => ?_
    refine bL cx.mono r ok er h fun evs st1 q vs H1 w1 le1 ok1 r1 hl => ?_
    unfold rngK at q
    split at q
    · obtain ⟨v, rfl, rv⟩ := evreps1 r1
      exact absurd hl (by simp)
    · obtain ⟨v, u, rfl, rv, ru⟩ := evreps2 r1
      cases (show Rep _ _ _ v _ from rv)
      cases (show Rep _ _ _ u _ from ru)
      exact ⟨_, _, rfl, q.1, q.2 _ H1 w1 le1 ok1 (Ys.range _ _)⟩
    · obtain ⟨v, u, x, rfl, rv, ru, rx⟩ := evreps3 r1
      exact absurd hl (by simp)
    · exact q.elim
  · obtain ⟨h1, h2⟩ := band h
    obtain ⟨h2, h3⟩ := band h2
    have h1 := of_decide_eq_true h1
    subst h1
    have h5 := l_star h3
    obtain ⟨p1, p2⟩ := hr.l c X cx _ h3
    refine PI.mono (pi_range3 (gl_of cx.sc h2) (cx.mgn _ (by decide)) p1 (star_of h5) (backTo_any (any_tail h5 (p2 _)))) fun σ H R ⟨w, st, env, ok, er, h⟩ => ?_
    refine bL cx.mono r ok er h fun evs st1 q vs H1 w1 le1 ok1 r1 hl => ?_
    unfold rngK at q
    split at q
    · obtain ⟨v, rfl, rv⟩ := evreps1 r1
      exact absurd hl (by simp)
    · obtain ⟨v, u, rfl, rv, ru⟩ := evreps2 r1
      exact absurd hl (by simp)
    · obtain ⟨v, u, x, rfl, rv, ru, rx⟩ := evreps3 r1
      cases (show Rep _ _ _ v _ from rv)
      cases (show Rep _ _ _ u _ from ru)
      cases (show Rep _ _ _ x _ from rx)
      obtain ⟨⟨rfl, b1, b2, b3, b4⟩, q⟩ := q
      exact ⟨_, _, _, _, rfl, RgC.neg b1 b2 b3 b4, q _ H1 w1 le1 ok1 (Ys.downto _ _)⟩
    · exact q.elim
  · cases h) (fun _ => rfl)
theorem Ys.enumT {K : PySem.W.Frag} {H : Hp} {w : Wd} {st : Sto} {a : Addr} {vs : List V} {ds : List D} (f : FzT K H (w.M st) a vs) (r : Reps K H (w.M st) vs ds) : Ys K (EnT.IteT K a) H w st (ds.mapIdx fun i x => .tuple [.int (i : Nat), x]) := fun H' w' st' le ok i => by
  have f' := f.conv le
  have r' := r.conv le
  refine ⟨fun h => ⟨vs, f'.sq, by rw [r'.length]; simpa using h⟩, fun x hx => ?_⟩
  rw [List.getElem?_mapIdx] at hx
  cases hd : ds[i]? with
  | none => rw [hd] at hx; cases hx
  | some d =>
    rw [hd] at hx
    cases hx
    obtain ⟨v, hv, rv⟩ := r'.get hd
    refine ⟨⟨vs, v, f'.sq, hv⟩, fun u H2 ⟨T, y, e1, n, e2, hu⟩ => ?_⟩
    subst e1 e2
    have := hu vs f'.sq
    rw [hv] at this
    cases this
    exact new_tup n ok (.cons (.int _) (.cons rv .nil))
theorem lst_d {K : PySem.W.Frag} {H : Hp} {w : Wd} {st : Sto} {v : V} {ds : List D} (r : EVRep K H w st v (.d (.list ds))) : ∃ a xs, v = .ref a ∧ FzL K H (w.M st) a xs ∧ Reps K H (w.M st) xs ds := by
  cases (show Rep _ _ _ v _ from r) with
  | lst f m rs => exact ⟨_, _, rfl, .inl ⟨.inl f, m⟩, rs⟩
theorem tup_d {K : PySem.W.Frag} {H : Hp} {w : Wd} {st : Sto} {v : V} {ds : List D} (r : EVRep K H w st v (.d (.tuple ds))) : ∃ a xs, v = .ref a ∧ FzT K H (w.M st) a xs ∧ Reps K H (w.M st) xs ds := by
  cases (show Rep _ _ _ v _ from r) with
  | tup f rs => exact ⟨_, _, rfl, f, rs⟩
theorem snd_enm {r : IE} (hr : Snd tb r) : Snd tb (.enm r) := sndI (f := fun c tg it => match tg, it with
      | .Tuple _ _ _, .Call (.Name f _) [x] [] _ => decide (f = "enumerate") && (glB c.sc f && (ck r c).l [x])
      | _, _ => false) (fun c X cx tg it h => by
  split at h
  · obtain ⟨h1, h2⟩ := band h
    obtain ⟨h2, h3⟩ := band h2
    have h1 := of_decide_eq_true h1
    subst h1
    have h5 := l_star h3
    refine PI.mono (EnT.pi_enumA (gl_of cx.sc h2) (cx.mgn _ (by decide)) (hr.l c X cx _ h3).1 (star_of h5)) fun σ H R ⟨w, st, env, ok, er, h⟩ => ?_
    refine bL cx.mono r ok er h fun evs st1 q vs H1 w1 le1 ok1 r1 hl => ?_
    unfold enmK at q
    split at q
    · obtain ⟨v, rfl, rv⟩ := evreps1 r1
      obtain ⟨a, xs, rfl, f, rs⟩ := lst_d rv
      exact ⟨a, xs, rfl, .inl ⟨f.sq, q _ H1 w1 le1 ok1 (Ys.enum f rs)⟩⟩
    · obtain ⟨v, rfl, rv⟩ := evreps1 r1
      obtain ⟨a, xs, rfl, f, rs⟩ := tup_d rv
      exact ⟨a, xs, rfl, .inr ⟨f.sq, q _ H1 w1 le1 ok1 (Ys.enumT f rs)⟩⟩
    · exact q.elim
  · cases h) (fun _ => rfl)
theorem snd_zp {r : IE} (hr : Snd tb r) : Snd tb (.zp r) := sndI (f := fun c tg it => match tg, it with
      | .Tuple _ _ _, .Call (.Name f _) [x, y] [] _ => decide (f = "zip") && (glB c.sc f && (ck r c).l [x, y])
      | _, _ => false) (fun c X cx tg it h => by
  split at h
  · obtain ⟨h1, h2⟩ := band h
    obtain ⟨h2, h3⟩ := band h2
    have h1 := of_decide_eq_true h1
    subst h1
    obtain ⟨p1, p2⟩ := hr.l c X cx _ h3
    have h5 := l_star h3
    refine PI.mono (RZ.pi_zipA (gl_of cx.sc h2) (cx.mgn _ (by decide)) p1 (star_of h5) (backTo_any (any_tail h5 (p2 _)))) fun σ H R ⟨w, st, env, ok, er, h⟩ => ?_
    refine bL cx.mono r ok er h fun evs st1 q vs H1 w1 le1 ok1 r1 hl => ?_
    unfold zpK at q
    split at q
    · obtain ⟨v, u, rfl, rv, ru⟩ := evreps2 r1
      obtain ⟨a, xs, rfl, f, rs⟩ := lst_d rv
      obtain ⟨b, ys, rfl, f2, rs2⟩ := lst_d ru
      exact ⟨a, b, xs, ys, rfl, .inl ⟨f.sq, f2.sq, q _ H1 w1 le1 ok1 (Ys.zip f rs f2 rs2)⟩⟩
    · obtain ⟨v, u, rfl, rv, ru⟩ := evreps2 r1
      obtain ⟨a, xs, rfl, f, rs⟩ := tup_d rv
      obtain ⟨b, ys, rfl, f2, rs2⟩ := tup_d ru
      exact ⟨a, b, xs, ys, rfl, .inr ⟨f.sq, f2.sq, q _ H1 w1 le1 ok1 (Ys.zipT f rs f2 rs2)⟩⟩
    · exact q.elim
  · cases h) (fun _ => rfl)
/-! ### starred displays -/
structure SndLs (tb : Tb) (ie : IE) : Prop where
  ls : ∀ c X, CxOk tb c X → ∀ es, (ck ie c).ls es = true → PA X es (TL0 X.K tb ie)
theorem EVReps.app {K : PySem.W.Frag} {H : Hp} {w : Wd} {st : Sto} : ∀ {vs us : List V} {ds : List D} {es : List EV}, Reps K H (w.M st) vs ds → EVReps K H w st us es → EVReps K H w st (vs ++ us) (ds.map EV.d ++ es)
  | _, _, _, _, .nil, r => r
  | _, _, _, _, .cons (d := d) a b, r => .cons (d := .d d) a (EVReps.app b r)
theorem EVReps.len {K : PySem.W.Frag} {H : Hp} {w : Wd} {st : Sto} {vs : List V} {es : List EV} (r : EVReps K H w st vs es) : vs.length = es.length := by
  induction r with
  | nil => rfl
  | cons _ _ ih => rw [List.length_cons, List.length_cons, ih]
theorem ls_nil : SndLs tb .nil := ⟨fun c X cx es h => by
  have h : es.isEmpty = true := h
  cases es with
  | nil => exact PA.mono pa_nil fun σ H Q ⟨w, st, env, ok, er, h⟩ => h [] H w Le.refl ok .nil
  | cons _ _ => cases h⟩
theorem ls_cons {a r : IE} (ha : Snd tb a) (hr : SndLs tb r) : SndLs tb (.cons a r) := ⟨fun c X cx es h => by
  cases es with
  | nil => exact ff h
  | cons e es =>
    have h : (notStar e && ((ck a c).e e && (ck r c).ls es)) = true := h
    obtain ⟨h1, hA⟩ := band h
    obtain ⟨h2, h3⟩ := band hA
    refine PA.mono (pa_cons (ha.e c X cx e h2) (hr.ls c X cx es h3) (star_of h1)) fun σ H Q ⟨w, st, env, ok, er, h⟩ => ?_
    exact bE cx.mono a ok er h fun ev st1 h1 v H1 w1 le1 ok1 r1 => ⟨w1, st1, env, ok1, er.le le1, (sem_mono cx.mono r).l _ _ _ _ (fun evs st2 q vs H2 w2 le2 ok2 r2 => q (v :: vs) H2 w2 (le1.trans le2) ok2 (.cons (r1.le le2) r2)) h1⟩⟩
theorem ls_scons {a r : IE} (ha : Snd tb a) (hr : SndLs tb r) : SndLs tb (.scons a r) := ⟨fun c X cx es h => by
  have key : ∃ e p es', es = .Starred e p :: es' ∧ (ck a c).e e = true ∧ (ck r c).ls es' = true := by
    cases es with
    | nil => exact ff h
    | cons e es =>
      cases e with
      | Starred e p =>
        obtain ⟨h1, h2⟩ := band (show ((ck a c).e e && (ck r c).ls es) = true from h)
        exact ⟨e, p, es, rfl, h1, h2⟩
      | _ => exact ff h
  obtain ⟨e, p, es', rfl, h1, h2⟩ := key
  refine PA.mono (StX.pa_star (ha.e c X cx e h1) (hr.ls c X cx es' h2)) fun σ H Q ⟨w, st, env, ok, er, h⟩ => ?_
  refine bE cx.mono a ok er h fun ev st1 h1 v H1 w1 le1 ok1 r1 => ?_
  obtain ⟨b, ds, q, xs, rfl, g1, g2, g3, g4⟩ := seq_rep ok1 r1 h1
  refine ⟨q, xs, rfl, ?_, w1, st1, env, ok1, er.le le1, (sem_mono cx.mono r).l _ _ _ _ (fun evs st2 k vs H2 w2 le2 ok2 r2 => k (xs ++ vs) H2 w2 (le1.trans le2) ok2 (EVReps.app (g3.le le2) r2)) g4⟩
  cases b with
  | true => exact .inr (g1 rfl)
  | false => exact .inl (g2 rfl).1⟩
theorem lineK {n : Nat} (h : n ≤ 1000000) : n ≤ sizeLine := by rw [sizeLine_eq]; omega
theorem snd_tupS {r : IE} (hr : SndLs tb r) : Snd tb (.tupS r) := sndE (f := fun c e => match e with
      | .Tuple es _ _ => (ck r c).ls es
      | _ => false) (fun c X cx e h => by
  split at h
  · refine PE.mono (pe_tup (hr.ls c X cx _ h)) fun σ H Q ⟨w, st, env, ok, er, h⟩ => ?_
    refine ⟨w, st, env, ok, er, (sem_mono cx.mono r).l _ _ _ _ (fun evs st1 q vs H1 w1 le1 ok1 r1 => ?_) h⟩
    obtain ⟨q0, q⟩ := q
    obtain ⟨ds, rs, q⟩ := allD_rep r1 q
    refine ⟨by rw [r1.len]; exact lineK q0, fun p n => ?_⟩
    obtain ⟨a, b, d⟩ := new_tup n ok1 rs
    exact q _ _ w1 (le1.trans a) b d
  · cases h) (fun _ => rfl)
theorem snd_lstS (kd : Nat) {r : IE} (hr : SndLs tb r) : Snd tb (.lstS kd r) := sndE (f := fun c e => match e with
      | .List es _ => (ck r c).ls es
      | _ => false) (fun c X cx e h => by
  split at h
  · refine PE.mono (pe_lst (hr.ls c X cx _ h)) fun σ H Q ⟨w, st, env, ok, er, h⟩ => ?_
    refine ⟨w, st, env, ok, er, (sem_mono cx.mono r).l _ _ _ _ (fun evs st1 q vs H1 w1 le1 ok1 r1 => ?_) h⟩
    obtain ⟨q0, q⟩ := q
    obtain ⟨ds, rs, q⟩ := allD_rep r1 q
    refine ⟨by rw [r1.len]; exact lineK q0, fun p n => ?_⟩
    obtain ⟨ev, w', st', a, b, d, q⟩ := new_lst n ok1 rs q
    exact q _ _ w' (le1.trans a) b d
  · cases h) (fun _ => rfl)
/-! ### isinstance -/
def tyS : Ty → String
  | .tuple => "tuple" | .list => "list" | .str => "str" | .int => "int" | .bool => "bool"
theorem kb_non (t : Ty) : kitB "NoneType" (tyS t) = some (isiD .none t) := by cases t <;> decide +kernel
theorem kb_bl (b : Bool) (t : Ty) : kitB "bool" (tyS t) = some (isiD (.bool b) t) := by
  have h : kitB "bool" (tyS t) = some (isiD (.bool true) t) := by cases t <;> decide +kernel
  rw [h]
  cases t <;> rfl
theorem kb_int (i : Int) (t : Ty) : kitB "int" (tyS t) = some (isiD (.int i) t) := by
  have h : kitB "int" (tyS t) = some (isiD (.int 0) t) := by cases t <;> decide +kernel
  rw [h]
  cases t <;> rfl
theorem kb_str (x : Str) (t : Ty) : kitB "str" (tyS t) = some (isiD (.str x) t) := by
  have h : kitB "str" (tyS t) = some (isiD (.str Str.empty) t) := by cases t <;> decide +kernel
  rw [h]
  cases t <;> rfl
theorem kb_lst (x : List D) (t : Ty) : kitB "list" (tyS t) = some (isiD (.list x) t) := by
  have h : kitB "list" (tyS t) = some (isiD (.list []) t) := by cases t <;> decide +kernel
  rw [h]
  cases t <;> rfl
theorem kb_tup (x : List D) (t : Ty) : kitB "tuple" (tyS t) = some (isiD (.tuple x) t) := by
  have h : kitB "tuple" (tyS t) = some (isiD (.tuple []) t) := by cases t <;> decide +kernel
  rw [h]
  cases t <;> rfl
theorem rep_ty {K : PySem.W.Frag} {H : Hp} {M : Addr → Prop} {v : V} {d : D} (r : Rep K H M v d) (t : Ty) : ∃ n : String, TyX K H v (.type n) ∧ kitB n (tyS t) = some (isiD d t) := by
  cases r with
  | non => exact ⟨"NoneType", .base .non, kb_non t⟩
  | bl b => exact ⟨"bool", .base (.bl b), kb_bl b t⟩
  | int i => exact ⟨"int", .base (.int i), kb_int i t⟩
  | str x => exact ⟨"str", .base (.str x), kb_str x t⟩
  | lst e m rs => exact ⟨"list", .base (.lst e), kb_lst _ t⟩
  | tup f rs =>
    refine ⟨"tuple", ?_, kb_tup _ t⟩
    rcases f with ⟨f, _⟩ | ⟨o, its, n, e, c, _⟩
    · rcases f with f | ⟨o, f⟩
      · exact .base (.tup f)
      · exact .fTuple f
    · exact .kTuple e c
theorem snd_isi {a : IE} (t : Ty) (ha : Snd tb a) : Snd tb (.isi a t) := by
  have go : ∀ {c : Ctx} {X : Cx}, CxOk tb c X → ∀ e, (match e with
      | .Call (.Name f _) [x, .Name y _] [] _ => decide (f = "isinstance") && (decide (y = tyN t) && (glB c.sc f && (glB c.sc y && (notStar x && (ck a c).e x))))
      | _ => false) = true → PE X e (tCB (rIsi X.K) (tCons (TEs X.K tb a) (tCons (tC (.ty (tyS t))) tNil))) := fun {c X} cx e h => by
    split at h
    · obtain ⟨h1, hA⟩ := band h
      obtain ⟨h2, hB⟩ := band hA
      obtain ⟨h3, hC⟩ := band hB
      obtain ⟨h4, hD⟩ := band hC
      obtain ⟨h5, h6⟩ := band hD
      have h1 := of_decide_eq_true h1
      have h2 := of_decide_eq_true h2
      subst h1 h2
      have pt : ∀ pos, PE X (.Name (tyN t) pos) (tC (.ty (tyS t))) := fun pos => by
        cases t <;> exact pe_bltn (gl_of cx.sc h4) (cx.mgn _ (by decide)) (u := .type _) (by decide +kernel) rfl (by decide) (by decide)
      exact pe_callB call_isi (gl_of cx.sc h3) (cx.mgn _ (by decide)) (by decide +kernel) (pa_cons (ha.e c X cx _ h6) (pa_cons (pt _) pa_nil rfl) (star_of h5)) (by decide) (by decide) (star_of h5) rfl
    · cases h
  have fin : ∀ {c : Ctx} {X : Cx}, CxOk tb c X → ∀ σ H Q, TEs X.K tb (.isi a t) σ H Q → tCB (rIsi X.K) (tCons (TEs X.K tb a) (tCons (tC (.ty (tyS t))) tNil)) σ H Q := fun {c X} cx σ H Q ⟨w, st, env, ok, er, h⟩ =>
    bE cx.mono a ok er h fun ev st1 h1 v H1 w1 le1 ok1 r1 => by
      obtain ⟨d, rd, q⟩ := dE_rep r1 h1
      obtain ⟨n, ty, hk⟩ := rep_ty rd t
      exact ⟨v, .ty (tyS t), .type n, .type (tyS t), _, rfl, .ty _, ty, kit_ty hk, q _ H1 w1 le1 ok1 (Rep.bl _)⟩
  refine sndB (f := fun c e => match e with
      | .Call (.Name f _) [x, .Name y _] [] _ => decide (f = "isinstance") && (decide (y = tyN t) && (glB c.sc f && (glB c.sc y && (notStar x && (ck a c).e x))))
      | _ => false) (fun c X cx e h => PE.mono (go cx e h) (fin cx)) (fun c X cx e h => ?_) (fun _ => rfl)
  have hp : plainT e = true := by
    split at h
    · rfl
    · cases h
  refine PT.mono (pt_truth (go cx e h) (plainT_of hp)) fun σ H Q ⟨w, st, env, ok, er, h⟩ => ?_
  exact bE cx.mono a ok er h fun ev st1 h1 v H1 w1 le1 ok1 r1 => by
    obtain ⟨d, rd, q⟩ := dE_rep r1 h1
    obtain ⟨n, ty, hk⟩ := rep_ty rd t
    exact ⟨v, .ty (tyS t), .type n, .type (tyS t), _, rfl, .ty _, ty, kit_ty hk, _, rfl, q H1 w1 le1 ok1⟩
/-! ### sorted(set(..)) -/
theorem reps_strs {K : PySem.W.Frag} {H : Hp} {M : Addr → Prop} : ∀ {ts : List Str} {vs : List V}, Reps K H M vs (ts.map PyData.str) → vs = ts.map V.str
  | [], _, .nil => rfl
  | t :: ts, _, .cons (.str _) r => by rw [reps_strs r]; rfl
theorem strs_reps {K : PySem.W.Frag} {H : Hp} {M : Addr → Prop} : ∀ (ts : List Str), Reps K H M (ts.map V.str) (ts.map PyData.str)
  | [] => .nil
  | t :: ts => .cons (.str t) (strs_reps ts)
theorem snd_srs (kd : Nat) {a : IE} (ha : Snd tb a) : Snd tb (.srs kd a) := sndE (f := fun c e => match e with
      | .Call (.Name f _) [.Call (.Name g _) [x] [] _] [] _ => decide (f = "sorted") && (decide (g = "set") && (glB c.sc f && (glB c.sc g && (notStar x && (ck a c).e x))))
      | _ => false) (fun c X cx e h => by
  split at h
  · obtain ⟨h1, hA⟩ := band h
    obtain ⟨h2, hB⟩ := band hA
    obtain ⟨h3, hC⟩ := band hB
    obtain ⟨h4, hD⟩ := band hC
    obtain ⟨h5, h6⟩ := band hD
    have h1 := of_decide_eq_true h1
    have h2 := of_decide_eq_true h2
    subst h1 h2
    refine PE.mono (pe_callB (cr_sortedSS cx.xo.calm) (gl_of cx.sc h3) (cx.mgn _ (by decide)) (by decide +kernel)
      (pa_cons (pe_callTy (cr_setST cx.xo.calm) (gl_of cx.sc h4) (cx.mgn _ (by decide)) (by decide +kernel) (pa_cons (ha.e c X cx _ h6) pa_nil (star_of h5)) (by decide) (by decide) (star_of h5) rfl) pa_nil rfl) (by decide) (by decide) rfl rfl)
      fun σ H Q ⟨w, st, env, ok, er, h⟩ => ?_
    refine bE cx.mono a ok er h fun ev st1 h1 v H1 w1 le1 ok1 r1 => ?_
    unfold srsK at h1
    split at h1
    · obtain ⟨ts, ⟨rfl, h64⟩, q⟩ := h1
      cases r1 with
      | lst hl nm rs =>
        have ev := reps_strs rs
        subst ev
        refine ⟨_, ts, rfl, .inl (SqL.of hl), h64, fun p m hm np => ⟨p, _, m, rfl, upd_same, by omega, fun ns p2 s1 s2 s3 s4 np2 => ?_⟩⟩
        have le2 := Le.fresh (o := SetSO X.prog X.w p (fun k => ts.any (· == k)) m) np ok1
        have ok2 := WOk.fresh (o := SetSO X.prog X.w p (fun k => ts.any (· == k)) m) np ok1
        obtain ⟨ev, w', st', b1, b2, b3, q2⟩ := new_lst np2 ok2 (strs_reps ns) (q ns ⟨s1, s2, fun t => (s3 t).trans (by simp)⟩)
        exact q2 _ _ w' ((le1.trans le2).trans b1) b2 b3
    · obtain ⟨ts, ⟨rfl, h64⟩, q⟩ := h1
      cases r1 with
      | tup hl rs =>
        have ev := reps_strs rs
        subst ev
        refine ⟨_, ts, rfl, .inr hl.sq, h64, fun p m hm np => ⟨p, _, m, rfl, upd_same, by omega, fun ns p2 s1 s2 s3 s4 np2 => ?_⟩⟩
        have le2 := Le.fresh (o := SetSO X.prog X.w p (fun k => ts.any (· == k)) m) np ok1
        have ok2 := WOk.fresh (o := SetSO X.prog X.w p (fun k => ts.any (· == k)) m) np ok1
        obtain ⟨ev, w', st', b1, b2, b3, q2⟩ := new_lst np2 ok2 (strs_reps ns) (q ns ⟨s1, s2, fun t => (s3 t).trans (by simp)⟩)
        exact q2 _ _ w' ((le1.trans le2).trans b1) b2 b3
    · exact h1.elim
  · cases h) (fun _ => rfl)
/-! ### sorted(a list of texts) -/
theorem snd_srl (kd : Nat) {a : IE} (ha : Snd tb a) : Snd tb (.srl kd a) := sndE (f := fun c e => match e with
      | .Call (.Name f _) [x] [] _ => decide (f = "sorted") && (glB c.sc f && (notStar x && (ck a c).e x))
      | _ => false) (fun c X cx e h => by
  split at h
  · obtain ⟨h1, hA⟩ := band h
    obtain ⟨h3, hC⟩ := band hA
    obtain ⟨h5, h6⟩ := band hC
    have h1 := of_decide_eq_true h1
    subst h1
    refine PE.mono (pe_callB cr_sortedLS (gl_of cx.sc h3) (cx.mgn _ (by decide)) (by decide +kernel)
      (pa_cons (ha.e c X cx _ h6) pa_nil (star_of h5)) (by decide) (by decide) (star_of h5) rfl)
      fun σ H Q ⟨w, st, env, ok, er, h⟩ => ?_
    refine bE cx.mono a ok er h fun ev st1 h1 v H1 w1 le1 ok1 r1 => ?_
    unfold srlK at h1
    split at h1
    · obtain ⟨ts, ⟨rfl, h64⟩, q⟩ := h1
      cases r1 with
      | lst hl nm rs =>
        have ev := reps_strs rs
        subst ev
        refine ⟨_, ts, rfl, SqL.of hl, h64, fun ns p2 s1 s2 np2 => ?_⟩
        obtain ⟨ev, w', st', b1, b2, b3, q2⟩ := new_lst np2 ok1 (strs_reps ns) (q ns ⟨s1, s2⟩)
        exact q2 _ _ w' (le1.trans b1) b2 b3
    · exact h1.elim
  · cases h) (fun _ => rfl)
/-! ### sorted ints -/
theorem ints_repsN {K : PySem.W.Frag} {H : Hp} {M : Addr → Prop} : ∀ (ts : List Int), Reps K H M (ts.map V.int) (ts.map PyData.int)
  | [] => .nil
  | t :: ts => .cons (.int t) (ints_repsN ts)
theorem snd_sri (kd : Nat) {a : IE} (ha : Snd tb a) : Snd tb (.sri kd a) := sndE (f := fun c e => match e with
      | .Call (.Name f _) [x] [] _ => decide (f = "sorted") && (glB c.sc f && (notStar x && (ck a c).e x))
      | _ => false) (fun c X cx e h => by
  split at h
  · obtain ⟨h1, hA⟩ := band h
    obtain ⟨h3, hC⟩ := band hA
    obtain ⟨h5, h6⟩ := band hC
    have h1 := of_decide_eq_true h1
    subst h1
    refine PE.mono (pe_callB cr_sortedI (gl_of cx.sc h3) (cx.mgn _ (by decide)) (by decide +kernel)
      (pa_cons (ha.e c X cx _ h6) pa_nil (star_of h5)) (by decide) (by decide) (star_of h5) rfl)
      fun σ H Q ⟨w, st, env, ok, er, h⟩ => ?_
    refine bE cx.mono a ok er h fun ev st1 h1 v H1 w1 le1 ok1 r1 => ?_
    unfold sriK at h1
    split at h1
    · obtain ⟨ts, rfl, q⟩ := h1
      cases r1 with
      | lst hl nm rs =>
        have ev := reps_ints rs
        subst ev
        refine ⟨_, ts, rfl, SqL.of hl, fun ns p2 s1 s2 np2 => ?_⟩
        obtain ⟨ev, w', st', b1, b2, b3, q2⟩ := new_lst np2 ok1 (ints_repsN ns) (q ns ⟨s1, s2⟩)
        exact q2 _ _ w' (le1.trans b1) b2 b3
    · exact h1.elim
  · cases h) (fun _ => rfl)
theorem snd_ssi (kd : Nat) {a : IE} (ha : Snd tb a) : Snd tb (.ssi kd a) := sndE (f := fun c e => match e with
      | .Call (.Name f _) [.Call (.Name g _) [x] [] _] [] _ => decide (f = "sorted") && (decide (g = "set") && (glB c.sc f && (glB c.sc g && (notStar x && (ck a c).e x))))
      | _ => false) (fun c X cx e h => by
  split at h
  · obtain ⟨h1, hA⟩ := band h
    obtain ⟨h2, hB⟩ := band hA
    obtain ⟨h3, hC⟩ := band hB
    obtain ⟨h4, hD⟩ := band hC
    obtain ⟨h5, h6⟩ := band hD
    have h1 := of_decide_eq_true h1
    have h2 := of_decide_eq_true h2
    subst h1 h2
    refine PE.mono (pe_callB (cr_sortedSet cx.xo.calm) (gl_of cx.sc h3) (cx.mgn _ (by decide)) (by decide +kernel)
      (pa_cons (pe_callTy (cr_setSI cx.xo.calm) (gl_of cx.sc h4) (cx.mgn _ (by decide)) (by decide +kernel) (pa_cons (ha.e c X cx _ h6) pa_nil (star_of h5)) (by decide) (by decide) (star_of h5) rfl) pa_nil rfl) (by decide) (by decide) rfl rfl)
      fun σ H Q ⟨w, st, env, ok, er, h⟩ => ?_
    refine bE cx.mono a ok er h fun ev st1 h1 v H1 w1 le1 ok1 r1 => ?_
    unfold ssiK at h1
    split at h1
    · obtain ⟨ts, ⟨rfl, h64⟩, q⟩ := h1
      cases r1 with
      | lst hl nm rs =>
        have ev := reps_ints rs
        subst ev
        refine ⟨_, ts, rfl, SqL.of hl, h64, fun p m hm np => ⟨p, _, m, rfl, upd_same, by omega, fun ns p2 s1 s2 s3 np2 => ?_⟩⟩
        have le2 := Le.fresh (o := SetO X.w p (fun k => ts.any (· == k)) m) np ok1
        have ok2 := WOk.fresh (o := SetO X.w p (fun k => ts.any (· == k)) m) np ok1
        obtain ⟨ev, w', st', b1, b2, b3, q2⟩ := new_lst np2 ok2 (ints_repsN ns) (q ns ⟨s1, fun t => (s2 t).trans (by simp)⟩)
        exact q2 _ _ w' ((le1.trans le2).trans b1) b2 b3
    · exact h1.elim
  · cases h) (fun _ => rfl)
/-! ### a range as a list or a tuple -/
theorem rgV_upto {K : PySem.W.Frag} {H : Hp} {M : Addr → Prop} (n : Int) : Reps K H M (rgV 0 n) (upto 0 n.toNat) := by
  have e1 : rgV 0 n = ((List.range n.toNat).map fun i => (0 : Int) + (i : Nat)).map V.int := by
    unfold rgV
    rw [List.map_map, Int.sub_zero]
    rfl
  have e2 : upto 0 n.toNat = ((List.range n.toNat).map fun i => (0 : Int) + (i : Nat)).map PyData.int := by
    unfold upto
    rw [List.map_map]
    rfl
  rw [e1, e2]
  exact ints_repsN _
theorem snd_rgv (tp : Bool) (kd : Nat) {a : IE} (ha : Snd tb a) : Snd tb (.rgv tp kd a) := sndE (f := fun c e => match e with
      | .Call (.Name f _) [.Call (.Name g _) [x] [] _] [] _ => decide (f = if tp = true then "tuple" else "list") && (decide (g = "range") && (glB c.sc f && (glB c.sc g && (notStar x && (ck a c).e x))))
      | _ => false) (fun c X cx e h => by
  split at h
  · rename_i f pf g pg x pg2 pos
    obtain ⟨h1, hA⟩ := band h
    obtain ⟨h2, hB⟩ := band hA
    obtain ⟨h3, hC⟩ := band hB
    obtain ⟨h4, hD⟩ := band hC
    obtain ⟨h5, h6⟩ := band hD
    have h1 := of_decide_eq_true h1
    have h2 := of_decide_eq_true h2
    subst h2
    have prg := prg_1 (p := pg) (pos := pg2) (gl_of cx.sc h4) (cx.mgn _ (by decide)) (ha.e c X cx _ h6) (star_of h5)
    cases tp with
    | true =>
      have h1 : f = "tuple" := h1
      subst h1
      refine PE.mono (pe_tupRg cx.xo.calm (gl_of cx.sc h3) (cx.mgn _ (by decide)) prg rfl) fun σ H Q ⟨w, st, env, ok, er, h⟩ => ?_
      have h : (sem tb a).e env st fun y st1 => rgvK true kd y st1 (PostW X.K H w st Q) := h
      refine bE cx.mono a ok er h fun ev st1 h1 v H1 w1 le1 ok1 r1 => ?_
      cases ev with
      | d y =>
        cases y with
        | int n =>
          obtain ⟨⟨b1, b2⟩, q⟩ := h1
          cases (show Rep _ _ _ v _ from r1)
          refine ⟨n, rfl, ⟨by omega, by omega, by omega, by omega, by omega⟩, fun p np => ?_⟩
          obtain ⟨l, o, rr⟩ := new_tup np ok1 (rgV_upto n)
          exact q _ _ w1 (le1.trans l) o rr
        | _ => exact h1.elim
      | _ => exact h1.elim
    | false =>
      have h1 : f = "list" := h1
      subst h1
      refine PE.mono (pe_listRg cx.xo.calm (gl_of cx.sc h3) (cx.mgn _ (by decide)) prg rfl) fun σ H Q ⟨w, st, env, ok, er, h⟩ => ?_
      have h : (sem tb a).e env st fun y st1 => rgvK false kd y st1 (PostW X.K H w st Q) := h
      refine bE cx.mono a ok er h fun ev st1 h1 v H1 w1 le1 ok1 r1 => ?_
      cases ev with
      | d y =>
        cases y with
        | int n =>
          obtain ⟨⟨b1, b2⟩, q⟩ := h1
          cases (show Rep _ _ _ v _ from r1)
          refine ⟨n, rfl, ⟨by omega, by omega, by omega, by omega, by omega⟩, fun p np => ?_⟩
          obtain ⟨ev, w', st', c1, c2, c3, q2⟩ := new_lst np ok1 (rgV_upto n) q
          exact q2 _ _ w' (le1.trans c1) c2 c3
        | _ => exact h1.elim
      | _ => exact h1.elim
  · cases h) (fun _ => rfl)
/-! ### is -/
theorem isBK_d {neg : Bool} {x y : EV} {k : Bool → Prop} (h : isBK neg x y k) : ∃ i j, x = .d (.bool i) ∧ y = .d (.bool j) ∧ k (if neg = true then !decide (i = j) else decide (i = j)) := by
  unfold isBK at h
  split at h
  · split at h <;> exact ⟨_, _, rfl, rfl, h⟩
  · exact h.elim
theorem snd_isB (neg : Bool) {a b : IE} (ha : Snd tb a) (hb : Snd tb b) : Snd tb (.isB neg a b) := by
  have go : ∀ {c : Ctx} {X : Cx}, CxOk tb c X → ∀ σ H (Q : V → Hp → Prop) (k : Bool → Sto → Prop) w st env, WOk X.K H w st → EnvRep X.K H w st σ env → (sem tb (.isB neg a b)).t env st k → (∀ z st' H' w', k z st' → Le H w st H' w' st' → WOk X.K H' w' st' → Q (.bl z) H') →
      tOp (if neg = true then rNotB else rIsB) (TEs X.K tb a) (TEs X.K tb b) σ H Q := fun {c X} cx σ H Q k w st env ok er h hk => by
    have h : (sem tb a).e env st fun x st => (sem tb b).e env st fun y st => isBK neg x y fun z => k z st := h
    refine bE cx.mono a ok er h fun ex st1 h1 v1 H1 w1 le1 ok1 r1 => bE cx.mono b ok1 (er.le le1) h1 fun ey st2 h2 v2 H2 w2 le2 ok2 r2 => ?_
    obtain ⟨i, j, rfl, rfl, q⟩ := isBK_d h2
    cases (show Rep _ _ _ v1 _ from r1)
    cases (show Rep _ _ _ v2 _ from r2)
    have := hk _ _ H2 w2 q (le1.trans le2) ok2
    cases neg with
    | true => exact ⟨i, j, rfl, rfl, this⟩
    | false => exact ⟨i, j, rfl, rfl, this⟩
  refine sndB (f := fun c e => isBf neg (ck a c).e (ck b c).e e) (fun c X cx e h => ?_) (fun c X cx e h => ?_) (fun _ => rfl)
  · unfold isBf at h
    split at h
    · obtain ⟨h0, h⟩ := band h
      obtain ⟨h1, h2⟩ := band h
      obtain ⟨h2, h3⟩ := band h2
      have e : neg = false := by simpa using h0
      subst e
      exact PE.mono (pe_cmpR op_isBl (ha.e c X cx _ h1) (hb.e c X cx _ h3) (marks_of h2)) fun σ H Q ⟨w, st, env, ok, er, h⟩ =>
        go cx σ H Q _ w st env ok er h fun z st' H' w' hz le ok' => hz _ H' w' le ok' (Rep.bl _)
    · obtain ⟨h0, h⟩ := band h
      obtain ⟨h1, h2⟩ := band h
      obtain ⟨h2, h3⟩ := band h2
      subst h0
      exact PE.mono (pe_cmpR op_notBl (ha.e c X cx _ h1) (hb.e c X cx _ h3) (marks_of h2)) fun σ H Q ⟨w, st, env, ok, er, h⟩ =>
        go cx σ H Q _ w st env ok er h fun z st' H' w' hz le ok' => hz _ H' w' le ok' (Rep.bl _)
    · cases h
  · unfold isBf at h
    split at h
    · obtain ⟨h0, h⟩ := band h
      obtain ⟨h1, h2⟩ := band h
      obtain ⟨h2, h3⟩ := band h2
      have e : neg = false := by simpa using h0
      subst e
      exact PT.mono (pt_cmpR op_isBl (ha.e c X cx _ h1) (hb.e c X cx _ h3) (marks_of h2)) fun σ H Q ⟨w, st, env, ok, er, h⟩ =>
        go cx σ H _ _ w st env ok er h fun z st' H' w' hz le ok' => ⟨_, rfl, hz H' w' le ok'⟩
    · obtain ⟨h0, h⟩ := band h
      obtain ⟨h1, h2⟩ := band h
      obtain ⟨h2, h3⟩ := band h2
      subst h0
      exact PT.mono (pt_cmpR op_notBl (ha.e c X cx _ h1) (hb.e c X cx _ h3) (marks_of h2)) fun σ H Q ⟨w, st, env, ok, er, h⟩ =>
        go cx σ H _ _ w st env ok er h fun z st' H' w' hz le ok' => ⟨_, rfl, hz H' w' le ok'⟩
    · cases h
/-! ### star calls -/
theorem snd_callS (n ar : Nat) {r : IE} (hr : SndLs tb r) : Snd tb (.callS n ar r) := sndE (f := fun c e => match e with
      | .Call (.Name f _) (e :: es) [] _ => decide (c.fns[n]? = some (f, ar)) && (glB c.sc f && (okNm f && (notStar e && (es.any isStarE && (ck r c).ls (e :: es)))))
      | _ => false) (fun c X cx e h => by
  split at h
  · rename_i f pf e es pos
    obtain ⟨h1, hA⟩ := band h
    obtain ⟨h2, hB⟩ := band hA
    obtain ⟨h3, hC⟩ := band hB
    obtain ⟨h4, hD⟩ := band hC
    obtain ⟨h5, h6⟩ := band hD
    clear h hA hB hC hD
    have h1 := of_decide_eq_true h1
    rw [cx.fns, List.getElem?_map] at h1
    cases hq : tb.fn[n]? with
    | none => rw [hq] at h1; cases h1
    | some q =>
      rw [hq] at h1
      obtain ⟨qn, qa, qs⟩ := q
      have h1 : some (qn, qa) = some (f, ar) := h1
      cases h1
      obtain ⟨fa, fd, ps, k, F, hr0, hm, hk, hb⟩ := (cx.ok n _ hq).ok
      have hs : tb.sem n = qs := by
        unfold Tb.sem
        rw [hq]
      refine PE.mono (pe_callGS F hr0 cx.xo.gd (gl_of cx.sc h2) hm hk hb (hr.ls c X cx _ h6) (okNm_of h3).1 (star_of h4) (backTo_anyT (starAny_of h5))) fun σ H Q ⟨w, st, env, ok, er, h⟩ => ?_
      refine ⟨w, st, env, ok, er, (sem_mono cx.mono r).l _ _ _ _ (fun evs st1 q vs H1 w1 le1 ok1 r1 => ?_) h⟩
      obtain ⟨hl, q⟩ := q
      obtain ⟨ri, q⟩ := r1.inner q
      rw [hs] at q
      refine ⟨by rw [EVReps.len r1]; exact hl, w1.inner st1, st1.g, evs, rfl, ok1.inner, ri, ?_⟩
      have mq : qs evs st1.g (fun v g => PostW X.K H w st Q v ⟨g, st1.l⟩) := q
      have mm : SemMono qs := by rw [← hs]; exact cx.mono n
      refine mm _ _ _ _ (fun ev g hk' v H' w' hla le ok' r' => ?_) mq
      obtain ⟨a, b, d⟩ := outer_of ok1 hla le ok'
      exact hk' v H' _ (le1.trans a) b (d v ev r')
  · cases h) (fun _ => rfl)
/-! ### new lists by + and * -/
def rLop (K : PySem.W.Frag) (kd : Nat) (o : BOp) : R2 := fun x y H Q => ∃ w st ex ey, WOk K H w st ∧ EVRep K H w st x ex ∧ EVRep K H w st y ey ∧ lopK kd o ex ey st (PostW K H w st Q)
theorem op_lop {X : Cx} (kd : Nat) (o : BOp) : OpR X (binaryOp (opA o)) (rLop X.K kd o) := by
  intro pins s σ H x y v u Q I rx ry h
  obtain ⟨w, st, ex, ey, ok, r1, r2, q⟩ := h
  have l6 := line6
  unfold lopK at q
  split at q
  · cases (show Rep _ _ _ x _ from r1) with
    | lst f1 m1 e1 =>
      cases (show Rep _ _ _ y _ from r2) with
      | lst f2 m2 e2 =>
        refine op_cat pins s σ H _ _ v u Q I rx ry ⟨_, _, _, _, rfl, rfl, f1, f2, ?_, fun p n => ?_⟩
        · rw [e1.length, e2.length]; omega
        · obtain ⟨ev, w', st', a, b, c, d⟩ := new_lst n ok (e1.append e2) q.2
          exact d _ _ w' a b c
  · cases (show Rep _ _ _ y _ from r2)
    cases (show Rep _ _ _ x _ from r1) with
    | lst f1 m1 e1 =>
      obtain ⟨⟨h0, h1, h2⟩, q⟩ := q
      refine op_rep pins s σ H _ _ v u Q I rx ry ⟨_, _, _, rfl, rfl, f1, by omega, by omega, ?_, fun p n => ?_⟩
      · rw [e1.length]; omega
      · obtain ⟨ev, w', st', a, b, c, d⟩ := new_lst n ok (e1.rep _) q
        exact d _ _ w' a b c
  · exact q.elim
theorem snd_lop (kd : Nat) (o : BOp) {a b : IE} (ha : Snd tb a) (hb : Snd tb b) : Snd tb (.lop kd o a b) := sndE (f := fun c e => match e with
      | .BinOp l op r _ => decide (op = opA o) && ((ck a c).e l && (ck b c).e r)
      | _ => false) (fun c X cx e h => by
  split at h
  · obtain ⟨h1, h2⟩ := band h
    obtain ⟨h2, h3⟩ := band h2
    rw [of_decide_eq_true h1]
    refine PE.mono (pe_op (op_lop kd o) (ha.e c X cx _ h2) (hb.e c X cx _ h3)) fun σ H Q ⟨w, st, env, ok, er, h⟩ => ?_
    exact bE cx.mono a ok er h fun ex st1 h1 v1 H1 w1 le1 ok1 r1 => bE cx.mono b ok1 (er.le le1) h1 fun ey st2 h2 v2 H2 w2 le2 ok2 r2 =>
      ⟨w2, st2, ex, ey, ok2, r1.le le2, r2, lopK_mono (fun ev st' hz v H' w' le3 ok3 r3 => hz v H' w' ((le1.trans le2).trans le3) ok3 r3) h2⟩
  · cases h) (fun _ => rfl)
/-! ### a list's index -/
theorem first_at {n : Int} : ∀ {ns : List Int}, n ∈ ns → ∃ j : Nat, ns[j]? = some n ∧ ∀ i, i < j → ns[i]? ≠ some n
  | [], h => by cases h
  | m :: ns, h => by
    by_cases e : m = n
    · exact ⟨0, by simp [e], fun i hi => by omega⟩
    · obtain ⟨j, h1, h2⟩ := first_at (n := n) (ns := ns) ((List.mem_cons.mp h).elim (fun z => absurd z.symm e) id)
      refine ⟨j + 1, by simpa using h1, fun i hi => ?_⟩
      cases i with
      | zero => simpa using e
      | succ i => simpa using h2 i (by omega)
theorem snd_idx {a x : IE} (ha : Snd tb a) (hx : Snd tb x) : Snd tb (.idx a x) := sndE (f := fun c e => match e with
      | .Call (.Attribute o m ap) [y] [] cp => decide (m = "index") && (notCall o && ((ap.endLine == cp.line) && (notStar y && ((ck a c).e o && (ck x c).e y))))
      | _ => false) (fun c X cx e h => by
  split at h
  · obtain ⟨h1, hA⟩ := band h
    obtain ⟨h2, hB⟩ := band hA
    obtain ⟨h3, hC⟩ := band hB
    obtain ⟨h4, hD⟩ := band hC
    obtain ⟨h5, h6⟩ := band hD
    have h1 := of_decide_eq_true h1
    subst h1
    refine PE.mono (pe_bm PySem.F.plainAttrs_list PySem.F.slot_list_index PySem.F.type_list_index mt_index (ha.e c X cx _ h5) (pa_cons (hx.e c X cx _ h6) pa_nil (star_of h4)) (base_of h2) (few_of h4) h3 (star_of h4) rfl) fun σ H Q ⟨w, st, env, ok, er, h⟩ => ?_
    refine bE cx.mono a ok er h fun ex st1 h1 ov H1 w1 le1 ok1 r1 => ?_
    obtain ⟨hl, h1⟩ := h1
    cases ex with
    | d dx =>
      cases dx with
      | list xs =>
        cases (show Rep _ _ _ ov _ from r1) with
        | lst f m rs =>
          refine ⟨.inl ⟨rfl, _, SqL.of f⟩, bE cx.mono x ok1 (er.le le1) h1 fun ey st2 h2 v H2 w2 le2 ok2 r2 => ?_⟩
          cases ey with
          | d dy =>
            cases dy with
            | int n =>
              obtain ⟨ns, ⟨rfl, hm⟩, q⟩ := h2
              cases (show Rep _ _ _ v _ from r2)
              have ev := reps_ints rs
              subst ev
              obtain ⟨j, hj, hb⟩ := first_at hm
              refine ⟨_, ns.map V.int, .int n, j, .int n, rfl, rfl, SqL.of (le2.fr _ _ f m).1, rfl, ?_, ?_, ?_, ?_, q j hj hb _ H2 w2 (le1.trans le2) ok2 (Rep.int _)⟩
              · exact List.all_eq_true.mpr fun z hz => by
                  obtain ⟨i, _, rfl⟩ := List.mem_map.mp hz
                  rfl
              · rw [List.getElem?_map, hj]; rfl
              · simp [eqV]
              · intro i z hi hz
                rw [List.getElem?_map] at hz
                cases hn : ns[i]? with
                | none => rw [hn] at hz; cases hz
                | some t =>
                  rw [hn] at hz
                  cases hz
                  have : t ≠ n := fun e => hb i hi (by rw [hn, e])
                  simpa [eqV] using this
            | _ => exact h2.elim
          | _ => exact h2.elim
      | _ => exact hl.elim
    | _ => exact hl.elim
  · cases h) (fun _ => rfl)
/-! ### a displayed dict's value -/
def vOf : D → V
  | .str x => .str x
  | .int i => .int i
  | _ => .non
def trOf (ks : List (Str × D)) : List (TE × TE) := ks.map fun q => ((fun σ H Q => Q (.str q.1) H : TE), (fun σ H Q => Q (vOf q.2) H : TE))
def kvOf (ks : List (Str × D)) : List (Key × V) := ks.map fun q => (Sum.inr q.1, vOf q.2)
theorem keys_pps {X : Cx} {pos : Pos} : ∀ {ks : List (Str × D)} {es : List (Option Expr)} {vs : List Expr}, keysB ks es vs = true → PPs X pos es vs (trOf ks) ∧ es.all (·.isSome) = true ∧ es.length = ks.length ∧ vs.length = ks.length ∧ ∀ q ∈ ks, ∀ K H M, Rep K H M (vOf q.2) q.2
  | ks, es, vs, h => by
    unfold keysB at h
    split at h
    · exact ⟨pps_nil, rfl, rfl, rfl, fun q hq => by cases hq⟩
    · obtain ⟨h1, h2⟩ := band h
      obtain ⟨h2, h3⟩ := band h2
      rw [of_decide_eq_true h1, of_decide_eq_true h2]
      obtain ⟨a, b, c, d, e⟩ := keys_pps (X := X) (pos := pos) h3
      refine ⟨pps_cons pe_str pe_str a, by simpa using b, by simp [c], by simp [d], fun q hq K H M => ?_⟩
      rcases List.mem_cons.mp hq with rfl | hq
      · exact .str _
      · exact e q hq K H M
    · obtain ⟨h1, h2⟩ := band h
      obtain ⟨h2, h3⟩ := band h2
      rw [of_decide_eq_true h1, of_decide_eq_true h2]
      obtain ⟨a, b, c, d, e⟩ := keys_pps (X := X) (pos := pos) h3
      refine ⟨pps_cons pe_str pe_int a, by simpa using b, by simp [c], by simp [d], fun q hq K H M => ?_⟩
      rcases List.mem_cons.mp hq with rfl | hq
      · exact .int _
      · exact e q hq K H M
    · cases h
theorem tp_of : ∀ (ks : List (Str × D)) (σ : L2.St) (H : Hp) (Q : List (V × V) → Hp → Prop), Q ((kvOf ks).map fun kv => (kV kv.1, kv.2)) H → tPairs (trOf ks) σ H Q
  | [], _, _, _, h => h
  | q :: ks, σ, H, Q, h => tp_of ks σ H (fun ps H3 => Q ((.str q.1, vOf q.2) :: ps) H3) h
theorem put_new {acc : List (Key × V)} {k : Key} {v : V} (h : k ∉ acc.map (·.1)) : putK acc k v = acc ++ [(k, v)] := by
  unfold putK
  refine if_neg fun z => h ?_
  rw [List.any_eq_true] at z
  obtain ⟨q, hq, e⟩ := z
  exact List.mem_map.mpr ⟨q, hq, of_decide_eq_true e⟩
theorem merge_new : ∀ (ks : List (Str × D)) (acc : List (Key × V)), (ks.map (·.1)).Nodup → (∀ q ∈ ks, (Sum.inr q.1 : Key) ∉ acc.map (·.1)) → mergeK acc (kvOf ks) = acc ++ kvOf ks
  | [], acc, _, _ => by simp [mergeK, kvOf]
  | q :: ks, acc, h, g => by
    have e : mergeK acc (kvOf (q :: ks)) = mergeK (putK acc (Sum.inr q.1) (vOf q.2)) (kvOf ks) := rfl
    have h := List.nodup_cons.mp (show (q.1 :: ks.map (·.1)).Nodup from h)
    rw [e, put_new (g q (by simp)), merge_new ks _ h.2 fun p hp z => ?_]
    · rw [List.append_assoc]
      rfl
    · rw [List.map_append, List.mem_append] at z
      rcases z with z | z
      · exact g p (by simp [hp]) z
      · have z : (Sum.inr p.1 : Key) = Sum.inr q.1 := by simpa using z
        injection z with z
        exact h.1 (by rw [← z]; exact List.mem_map.mpr ⟨p, hp, rfl⟩)
theorem val_of (z : Str) : ∀ ks : List (Str × D), valV (kvOf ks) (Sum.inr z) = (ks.lookup z).map vOf
  | [] => rfl
  | (k, d) :: ks => by
    by_cases e : k = z
    · subst e
      rw [List.lookup_cons_self]
      exact valV_pos (p := (Sum.inr k, vOf d)) rfl
    · have e1 : (z == k) = false := beq_eq_false_iff_ne.mpr fun q => e q.symm
      rw [List.lookup_cons, e1]
      exact (valV_neg (p := (Sum.inr k, vOf d)) fun q => e (by injection q)).trans (val_of z ks)
theorem lookup_mem {z : Str} {d : D} : ∀ {ks : List (Str × D)}, ks.lookup z = some d → ∃ q ∈ ks, q.2 = d
  | [], h => by cases h
  | (k, e) :: ks, h => by
    rw [List.lookup_cons] at h
    split at h
    · cases h
      exact ⟨(k, d), List.mem_cons_self .., rfl⟩
    · obtain ⟨q, hq, e⟩ := lookup_mem h
      exact ⟨q, by simp [hq], e⟩
theorem upd_twice {H : Hp} {p : Addr} {o o' : HO} : upd (upd H p o) p o' = upd H p o' := by
  funext a
  by_cases e : a = p
  · subst e
    rw [upd_same, upd_same]
  · rw [upd_ne e, upd_ne e, upd_ne e]
theorem snd_dget (ks : List (Str × D)) {a b : IE} (ha : Snd tb a) (hb : Snd tb b) : Snd tb (.dget ks a b) := sndE (f := fun c e => match e with
      | .Call (.Attribute (.Dict es vs _) m ap) [x, y] [] cp => decide (m = "get") && (keysB ks es vs && ((decide (ks.map (·.1)).Nodup && (decide (ks ≠ []) && decide (ks.length ≤ 15))) && ((ap.endLine == cp.line) && (notStar x && (notStar y && ((ck a c).e x && (ck b c).e y))))))
      | _ => false) (fun c X cx e h => by
  split at h
  · obtain ⟨h1, hA⟩ := band h
    obtain ⟨h2, hB⟩ := band hA
    obtain ⟨h3, hC⟩ := band hB
    obtain ⟨h3, h3'⟩ := band h3
    obtain ⟨h3', h3''⟩ := band h3'
    obtain ⟨h4, hD⟩ := band hC
    obtain ⟨h5, hE⟩ := band hD
    obtain ⟨h6, hF⟩ := band hE
    obtain ⟨h7, h8⟩ := band hF
    have h1 := of_decide_eq_true h1
    subst h1
    have nd := of_decide_eq_true h3
    have h15 := of_decide_eq_true h3''
    have hne := of_decide_eq_true h3'
    obtain ⟨p1, p2, p3, p4, p5⟩ := keys_pps (X := X) h2
    refine PE.mono (pe_dget2 (by have := cx.xo.hu; omega) (pe_disp p1 p2 (by rw [p3, p4]) (fun z => hne (List.eq_nil_of_length_eq_zero (by rw [← p3, z]; rfl))) (by rw [p3]; exact h15)) (ha.e c X cx _ h7) (hb.e c X cx _ h8)
      ⟨base_of rfl, few2_of h5 h6, h4, by rw [star_of h5, star_of h6]; rfl⟩) fun σ H Q ⟨w, st, env, ok, er, h⟩ => ?_
    intro p np
    refine tp_of ks σ _ _ ⟨upd_same, kvOf ks, rfl, by unfold kvOf; rw [List.length_map]; exact h15, ?_⟩
    rw [merge_new ks [] nd (fun q _ z => by cases z), List.nil_append, upd_twice]
    have le0 := Le.fresh (o := .dK (kvOf ks)) np ok
    have ok0 := WOk.fresh (o := .dK (kvOf ks)) np ok
    have nm := (ok.notM np).1
    refine ⟨p, rfl, .inl ⟨_, .inl upd_same⟩, bE cx.mono a ok0 (er.le le0) h fun ex st1 h1 v1 H1 w1 le1 ok1 r1 => bE cx.mono b ok1 (er.le (le0.trans le1)) h1 fun ey st2 h2 v2 H2 w2 le2 ok2 r2 => ?_⟩
    have hp : H2 p = some (.dK (kvOf ks)) := ((le1.trans le2).fr p _ upd_same nm).1
    unfold dgetK at h2
    split at h2
    · rename_i z
      cases (show Rep _ _ _ v1 _ from r1)
      refine ⟨_, DGet.k (k := Sum.inr z) hp, ?_⟩
      rw [val_of]
      split at h2
      · rename_i d hd
        obtain ⟨q, hq, rfl⟩ := lookup_mem hd
        rw [hd]
        exact h2 _ H2 w2 ((le0.trans le1).trans le2) ok2 (p5 q hq _ _ _)
      · rename_i hd
        rw [hd]
        exact h2 _ H2 w2 ((le0.trans le1).trans le2) ok2 r2
    · exact h2.elim
  · cases h) (fun _ => rfl)
end
end VI

/-! VI12: the soundness of comprehensions; of every expression. -/
namespace VI
open PySem PySem.Spec PyProof.Rows L2
/-! ### a list under construction -/
def Wd.hold (w : Wd) (p : Addr) : Wd := ⟨w.mu, w.la, fun a => w.F a ∨ a = p⟩
section
variable {K : PySem.W.Frag} {H H1 : Hp} {w w1 : Wd} {st st1 : Sto} {p : Addr} {o : HO}
theorem hold_M {a : Addr} : (w.hold p).M st a ↔ w.M st a ∨ a = p := by
  unfold Wd.M Wd.hold
  constructor
  · rintro (h | h | h | h)
    · exact .inl (.inl h)
    · exact .inl (.inr (.inl h))
    · exact .inl (.inr (.inr h))
    · exact .inr h
  · rintro ((h | h | h) | h)
    · exact .inl h
    · exact .inr (.inl h)
    · exact .inr (.inr (.inl h))
    · exact .inr (.inr (.inr h))
theorem hold_fr (n : H p = none) : Fr H w st (upd H p o) (w.hold p) st := fun a u h m =>
  ⟨by rw [upd_ne (ne_of_none h n)]; exact h, fun q => (hold_M.mp q).elim m (ne_of_none h n)⟩
theorem hold_ev {v : V} {ev : EV} (n : H p = none) (r : EVRep K H w st v ev) : EVRep K (upd H p o) (w.hold p) st v ev := by
  cases ev with
  | d x => exact Rep.conv (hold_fr n) r
  | lm n => exact r
  | gm n => exact r
  | sc ds =>
    obtain ⟨a, xs, e, f, q⟩ := r
    exact ⟨a, xs, e, f.conv (hold_fr n), q.conv (hold_fr n)⟩
theorem hold_env {σ : L2.St} {env : En} (n : H p = none) (r : EnvRep K H w st σ env) : EnvRep K (upd H p o) (w.hold p) st σ env :=
  ⟨r.1, fun i ev h => let ⟨v, e, q⟩ := r.2 i ev h; ⟨v, e, hold_ev n q⟩⟩
theorem hold_ok (n : H p = none) (ok : WOk K H w st) : WOk K (upd H p o) (w.hold p) st := by
  obtain ⟨nM, nm, nl⟩ := ok.notM n
  refine ⟨ok.lg, ok.ll, fun i xs h => ?_, fun i xs h => ?_, fun i a h e => ?_, ok.nd, fun a h => ?_⟩
  · obtain ⟨a, vs, e, z, r⟩ := ok.g i xs h
    exact ⟨a, vs, e, by rw [upd_ne (ne_of_none z n)]; exact z, r.conv (hold_fr n)⟩
  · obtain ⟨a, vs, e, z, r⟩ := ok.l i xs h
    exact ⟨a, vs, e, by rw [upd_ne (ne_of_none z n)]; exact z, r.conv (hold_fr n)⟩
  · obtain ⟨u, z⟩ := ok.fz i a h e
    exact ⟨u, by rw [upd_ne (ne_of_none z n)]; exact z⟩
  · rcases h with h | h
    · obtain ⟨⟨u, z⟩, q⟩ := ok.fF a h
      exact ⟨⟨u, by rw [upd_ne (ne_of_none z n)]; exact z⟩, q⟩
    · subst h
      exact ⟨⟨o, upd_same⟩, nm, nl⟩
/-- the list grows -/
theorem grow_ok (hp : w.F p) (ok : WOk K H w st) : WOk K (upd H p o) w st := by
  obtain ⟨_, nm, nl⟩ := ok.fF p hp
  have fr : Fr H w st (upd H p o) w st := fun a u h m => ⟨by rw [upd_ne fun e => m (by rw [e]; exact .inr (.inr hp))]; exact h, m⟩
  refine ⟨ok.lg, ok.ll, fun i xs h => ?_, fun i xs h => ?_, fun i a h e => ?_, ok.nd, fun a h => ?_⟩
  · obtain ⟨a, vs, e, z, r⟩ := ok.g i xs h
    exact ⟨a, vs, e, by rw [upd_ne fun q => nm (by rw [← q]; exact List.mem_iff_getElem?.mpr ⟨i, e⟩)]; exact z, r.conv fr⟩
  · obtain ⟨a, vs, e, z, r⟩ := ok.l i xs h
    exact ⟨a, vs, e, by rw [upd_ne fun q => nl (by rw [← q]; exact List.mem_iff_getElem?.mpr ⟨i, e⟩)]; exact z, r.conv fr⟩
  · obtain ⟨u, z⟩ := ok.fz i a h e
    exact ⟨u, by rw [upd_ne fun q => nl (by rw [← q]; exact List.mem_iff_getElem?.mpr ⟨i, e⟩)]; exact z⟩
  · obtain ⟨⟨u, z⟩, q⟩ := ok.fF a h
    refine ⟨?_, q⟩
    by_cases e : a = p
    · subst e
      exact ⟨o, upd_same⟩
    · exact ⟨u, by rw [upd_ne e]; exact z⟩
theorem grow_fr (hp : w.F p) : Fr H w st (upd H p o) w st := fun a u h m => ⟨by rw [upd_ne fun e => m (by rw [e]; exact .inr (.inr hp))]; exact h, m⟩
/-- the way through a loop that builds the list at p: as Le, but the list itself may change -/
structure LeP (p : Addr) (H : Hp) (w : Wd) (st : Sto) (H' : Hp) (w' : Wd) (st' : Sto) : Prop where
  F : w'.F = w.F
  mu : ∃ t, w'.mu = w.mu ++ t
  la : ∃ t, w'.la = w.la ++ t
  fr : Fr H w st H' w' st'
  fo : ∀ a, w.F a → a ≠ p → H' a = H a
theorem LeP.refl : LeP p H w st H w st := ⟨rfl, ⟨[], by simp⟩, ⟨[], by simp⟩, fun _ _ h m => ⟨h, m⟩, fun _ _ _ => rfl⟩
theorem LeP.step {H2 : Hp} {w2 : Wd} {st2 : Sto} (a : LeP p H w st H1 w1 st1) (b : Le H1 w1 st1 H2 w2 st2) : LeP p H w st H2 w2 st2 where
  F := b.F.trans a.F
  mu := by
    obtain ⟨t, e⟩ := a.mu
    obtain ⟨u, e'⟩ := b.mu
    exact ⟨t ++ u, by rw [e', e, List.append_assoc]⟩
  la := by
    obtain ⟨t, e⟩ := a.la
    obtain ⟨u, e'⟩ := b.la
    exact ⟨t ++ u, by rw [e', e, List.append_assoc]⟩
  fr := fun c o h m => let z := a.fr c o h m; b.fr c o z.1 z.2
  fo := fun c h n => (b.fo c (by rw [a.F]; exact h)).trans (a.fo c h n)
theorem LeP.trans {H2 : Hp} {w2 : Wd} {st2 : Sto} (a : LeP p H w st H1 w1 st1) (b : LeP p H1 w1 st1 H2 w2 st2) : LeP p H w st H2 w2 st2 where
  F := b.F.trans a.F
  mu := by
    obtain ⟨t, e⟩ := a.mu
    obtain ⟨u, e'⟩ := b.mu
    exact ⟨t ++ u, by rw [e', e, List.append_assoc]⟩
  la := by
    obtain ⟨t, e⟩ := a.la
    obtain ⟨u, e'⟩ := b.la
    exact ⟨t ++ u, by rw [e', e, List.append_assoc]⟩
  fr := fun c o h m => let z := a.fr c o h m; b.fr c o z.1 z.2
  fo := fun c h n => (b.fo c (by rw [a.F]; exact h) n).trans (a.fo c h n)
theorem LeP.grow (a : LeP p H w st H1 w1 st1) (hp : w.F p) : LeP p H w st (upd H1 p o) w1 st1 where
  F := a.F
  mu := a.mu
  la := a.la
  fr := fun c u h m => let z := a.fr c u h m; grow_fr (by rw [a.F]; exact hp) c u z.1 z.2
  fo := fun c h n => by rw [upd_ne n]; exact a.fo c h n
theorem LeP.env {σ : L2.St} {env : En} (r : EnvRep K H w st σ env) (l : LeP p H w st H1 w1 st1) : EnvRep K H1 w1 st1 σ env :=
  ⟨r.1, fun i ev h => by
    obtain ⟨v, e, q⟩ := r.2 i ev h
    refine ⟨v, e, ?_⟩
    cases ev with
    | d x => exact Rep.conv l.fr q
    | lm n => obtain ⟨a, e, h⟩ := q; exact ⟨a, e, pre_get l.la h⟩
    | gm n => obtain ⟨a, e, h⟩ := q; exact ⟨a, e, pre_get l.mu h⟩
    | sc ds =>
      obtain ⟨a, xs, e, f, q⟩ := q
      exact ⟨a, xs, e, f.conv l.fr, q.conv l.fr⟩⟩
/-- the list is done: it gets its kind -/
theorem held_lst {kd : Nat} {vs : List V} {xs : List D} {k : KE} (n : H p = none) (ok : WOk K H w st) (l : LeP p (upd H p o) (w.hold p) st H1 w1 st1) (ok1 : WOk K H1 w1 st1) (hp : H1 p = some (.lst vs)) (r : Reps K H1 (w1.M st1) vs xs) (h : newL kd xs st1 k) :
    ∃ ev w' st', Le H w st H1 w' st' ∧ WOk K H1 w' st' ∧ EVRep K H1 w' st' (.ref p) ev ∧ k ev st' := by
  have hF : w1.F = fun a => w.F a ∨ a = p := l.F
  have hpF : w1.F p := by rw [hF]; exact .inr rfl
  obtain ⟨_, nm, nl⟩ := ok1.fF p hpF
  have nwF : ¬ w.F p := fun q => by
    obtain ⟨⟨u, z⟩, _⟩ := ok.fF p q
    rw [n] at z
    cases z
  -- what is not the list
  have out : ∀ (w' : Wd) (st' : Sto), (∀ a, w'.M st' a → w1.M st1 a) → Fr H w st H1 w' st' := fun w' st' hm a u h m => by
    have z := l.fr a u (by rw [upd_ne (ne_of_none h n)]; exact h) fun q => (hold_M.mp q).elim m (ne_of_none h n)
    exact ⟨z.1, fun q => z.2 (hm a q)⟩
  have fo : ∀ a, w.F a → H1 a = H a := fun a h => by
    have e : a ≠ p := fun e => nwF (by rw [← e]; exact h)
    rw [l.fo a (.inl h) e, upd_ne e]
  unfold newL at h
  split at h
  · have hM : ∀ a, Wd.M ⟨w1.mu, w1.la, w.F⟩ st1 a → w1.M st1 a := fun a q => by
      rcases q with q | q | q
      · exact .inl q
      · exact .inr (.inl q)
      · exact .inr (.inr (by rw [hF]; exact .inl q))
    have cv : Fr H1 w1 st1 H1 ⟨w1.mu, w1.la, w.F⟩ st1 := fun a u h m => ⟨h, fun q => m (hM a q)⟩
    have np : ¬ Wd.M ⟨w1.mu, w1.la, w.F⟩ st1 p := fun q => by
      rcases q with q | ⟨i, ys, q, _⟩ | q
      · exact nm q
      · exact nl (List.mem_iff_getElem?.mpr ⟨i, q⟩)
      · exact nwF q
    refine ⟨.d (.list xs), ⟨w1.mu, w1.la, w.F⟩, st1, ⟨rfl, l.mu, l.la, out _ _ hM, fo⟩, ⟨ok1.lg, ok1.ll, fun i ys h => ?_, fun i ys h => ?_, ok1.fz, ok1.nd, fun a h => ?_⟩, Rep.lst hp np (r.conv cv), h⟩
    · obtain ⟨a, us, e, z, q⟩ := ok1.g i ys h
      exact ⟨a, us, e, z, q.conv cv⟩
    · obtain ⟨a, us, e, z, q⟩ := ok1.l i ys h
      exact ⟨a, us, e, z, q.conv cv⟩
    · exact ok1.fF a (by rw [hF]; exact .inl h)
  · have hM : ∀ a, Wd.M ⟨w1.mu, w1.la ++ [p], w.F⟩ ⟨st1.g, st1.l ++ [some xs]⟩ a → w1.M st1 a := fun a q => by
      rcases q with q | ⟨i, ys, q, q2⟩ | q
      · exact .inl q
      · have q : (w1.la ++ [p])[i]? = some a := q
        have q2 : (st1.l ++ [some xs])[i]? = some (some ys) := q2
        by_cases hi : i < w1.la.length
        · rw [List.getElem?_append_left hi] at q
          rw [List.getElem?_append_left (by rw [← ok1.ll]; exact hi)] at q2
          exact .inr (.inl ⟨i, ys, q, q2⟩)
        · rw [List.getElem?_append_right (by omega)] at q
          have : a = p := by
            have := List.mem_iff_getElem?.mpr ⟨_, q⟩
            simpa using this
          subst this
          exact .inr (.inr hpF)
      · exact .inr (.inr (by rw [hF]; exact .inl q))
    have cv : Fr H1 w1 st1 H1 ⟨w1.mu, w1.la ++ [p], w.F⟩ ⟨st1.g, st1.l ++ [some xs]⟩ := fun a u h m => ⟨h, fun q => m (hM a q)⟩
    have pl : ∃ t, w1.la ++ [p] = w.la ++ t := by
      obtain ⟨t, e⟩ := l.la
      exact ⟨t ++ [p], by rw [e, List.append_assoc]; rfl⟩
    refine ⟨.lm st1.l.length, ⟨w1.mu, w1.la ++ [p], w.F⟩, ⟨st1.g, st1.l ++ [some xs]⟩, ⟨rfl, l.mu, pl, out _ _ hM, fo⟩, ⟨ok1.lg, by simp [ok1.ll], fun i ys h => ?_, fun i ys h => ?_, fun i a h e => ?_, ?_, fun a h => ?_⟩, ⟨p, rfl, ?_⟩, h⟩
    · obtain ⟨a, us, e, z, q⟩ := ok1.g i ys h
      exact ⟨a, us, e, z, q.conv cv⟩
    · have h : (st1.l ++ [some xs])[i]? = some (some ys) := h
      by_cases hi : i < st1.l.length
      · rw [List.getElem?_append_left hi] at h
        obtain ⟨a, us, e, z, q⟩ := ok1.l i ys h
        exact ⟨a, us, pre_get ⟨[p], rfl⟩ e, z, q.conv cv⟩
      · have hi2 : i = st1.l.length := by
          have := (List.getElem?_eq_some_iff.mp h).1
          rw [List.length_append] at this
          simp at this
          omega
        subst hi2
        rw [List.getElem?_append_right (Nat.le_refl _)] at h
        simp at h
        subst h
        refine ⟨p, vs, ?_, hp, r.conv cv⟩
        show (w1.la ++ [p])[st1.l.length]? = some p
        rw [List.getElem?_append_right (by rw [ok1.ll]; exact Nat.le_refl _), ok1.ll]
        simp
    · have h : (st1.l ++ [some xs])[i]? = some none := h
      have e : (w1.la ++ [p])[i]? = some a := e
      by_cases hi : i < st1.l.length
      · rw [List.getElem?_append_left hi] at h
        rw [List.getElem?_append_left (by rw [ok1.ll]; exact hi)] at e
        exact ok1.fz i a h e
      · rw [List.getElem?_append_right (by omega)] at h
        have := List.mem_iff_getElem?.mpr ⟨_, h⟩
        simp at this
    · show (w1.mu ++ (w1.la ++ [p])).Nodup
      rw [← List.append_assoc]
      exact nodup_snoc ok1.nd fun h => (List.mem_append.mp h).elim nm nl
    · obtain ⟨q1, q2, q3⟩ := ok1.fF a (by rw [hF]; exact .inl h)
      exact ⟨q1, q2, fun q => (List.mem_append.mp q).elim q3 fun q => nwF (by rw [show p = a from (by simpa using q : a = p).symm]; exact h)⟩
    · show (w1.la ++ [p])[st1.l.length]? = some p
      rw [List.getElem?_append_right (by rw [ok1.ll]; exact Nat.le_refl _), ok1.ll]
      simp
  · have hM : ∀ a, Wd.M ⟨w1.mu ++ [p], w1.la, w.F⟩ ⟨st1.g ++ [xs], st1.l⟩ a → w1.M st1 a := fun a q => by
      rcases q with q | q | q
      · rcases List.mem_append.mp q with q | q
        · exact .inl q
        · have : a = p := by simpa using q
          subst this
          exact .inr (.inr hpF)
      · exact .inr (.inl q)
      · exact .inr (.inr (by rw [hF]; exact .inl q))
    have cv : Fr H1 w1 st1 H1 ⟨w1.mu ++ [p], w1.la, w.F⟩ ⟨st1.g ++ [xs], st1.l⟩ := fun a u h m => ⟨h, fun q => m (hM a q)⟩
    have pl : ∃ t, w1.mu ++ [p] = w.mu ++ t := by
      obtain ⟨t, e⟩ := l.mu
      exact ⟨t ++ [p], by rw [e, List.append_assoc]; rfl⟩
    refine ⟨.gm st1.g.length, ⟨w1.mu ++ [p], w1.la, w.F⟩, ⟨st1.g ++ [xs], st1.l⟩, ⟨rfl, pl, l.la, out _ _ hM, fo⟩, ⟨by simp [ok1.lg], ok1.ll, fun i ys h => ?_, fun i ys h => ?_, ok1.fz, ?_, fun a h => ?_⟩, ⟨p, rfl, ?_⟩, h⟩
    · have h : (st1.g ++ [xs])[i]? = some ys := h
      by_cases hi : i < st1.g.length
      · rw [List.getElem?_append_left hi] at h
        obtain ⟨a, us, e, z, q⟩ := ok1.g i ys h
        exact ⟨a, us, pre_get ⟨[p], rfl⟩ e, z, q.conv cv⟩
      · have hi2 : i = st1.g.length := by
          have := (List.getElem?_eq_some_iff.mp h).1
          rw [List.length_append] at this
          simp at this
          omega
        subst hi2
        rw [List.getElem?_append_right (Nat.le_refl _)] at h
        simp at h
        subst h
        refine ⟨p, vs, ?_, hp, r.conv cv⟩
        show (w1.mu ++ [p])[st1.g.length]? = some p
        rw [List.getElem?_append_right (by rw [ok1.lg]; exact Nat.le_refl _), ok1.lg]
        simp
    · obtain ⟨a, us, e, z, q⟩ := ok1.l i ys h
      exact ⟨a, us, e, z, q.conv cv⟩
    · show ((w1.mu ++ [p]) ++ w1.la).Nodup
      rw [List.append_assoc]
      refine (List.Perm.nodup_iff (List.Perm.append_left w1.mu (List.perm_append_comm (l₁ := [p]) (l₂ := w1.la)))).mpr ?_
      rw [← List.append_assoc]
      exact nodup_snoc ok1.nd fun h => (List.mem_append.mp h).elim nm nl
    · obtain ⟨q1, q2, q3⟩ := ok1.fF a (by rw [hF]; exact .inl h)
      exact ⟨q1, fun q => (List.mem_append.mp q).elim q2 fun q => nwF (by rw [show p = a from (by simpa using q : a = p).symm]; exact h), q3⟩
    · show (w1.mu ++ [p])[st1.g.length]? = some p
      rw [List.getElem?_append_right (by rw [ok1.lg]; exact Nat.le_refl _), ok1.lg]
      simp
end
/-! ### the block -/
theorem wipe_get {σ : L2.St} {j : Nat} : ∀ {vs : List Nat}, (wipe σ vs)[j]? = if j ∈ vs ∧ j < σ.length then some none else σ[j]?
  | [] => by simp [wipe]
  | v :: vs => by
    unfold wipe
    by_cases h : v = j
    · subst h
      by_cases hl : v < σ.length
      · rw [List.getElem?_set_self (by rw [wipe_length]; exact hl), if_pos ⟨List.mem_cons_self, hl⟩]
      · rw [if_neg fun z => hl z.2, List.getElem?_eq_none (by rw [List.length_set, wipe_length]; omega), List.getElem?_eq_none (by omega)]
    · rw [List.getElem?_set_ne h, wipe_get (vs := vs)]
      have : j ∈ v :: vs ↔ j ∈ vs := by
        rw [List.mem_cons]
        exact ⟨fun z => z.elim (fun e => absurd e.symm h) id, .inr⟩
      simp only [this]
theorem wipe_of {σ σ' : L2.St} {vs us : List Nat} (c : Chg us (wipe σ vs) σ') (h : ∀ j ∈ us, j ∈ vs) : wipe σ' vs = wipe σ vs := by
  refine List.ext_getElem? fun j => ?_
  have hl : σ'.length = σ.length := by rw [c.1, wipe_length]
  rw [wipe_get]
  by_cases hj : j ∈ vs ∧ j < σ'.length
  · rw [if_pos hj, wipe_get, if_pos ⟨hj.1, by rw [← hl]; exact hj.2⟩]
  · rw [if_neg hj]
    by_cases hm : j ∈ vs
    · have : ¬ j < σ'.length := fun z => hj ⟨hm, z⟩
      rw [List.getElem?_eq_none (by omega), List.getElem?_eq_none (by rw [wipe_length]; omega)]
    · exact c.2 j fun z => hm (h j z)
section
variable {tb : Tb}
theorem CxOk.blk {c : Ctx} {X : Cx} (cx : CxOk tb c X) (s : Shared) (H : Hp) (scope : Scope) (cl : List (Str × Addr)) (C : Addr) (fp : List Addr) :
    CxOk tb { c with sc := relS scope c.sc, fn := fun x => scope.names.lookup x == some .cell } (X.blk s H scope (compEnvC scope cl C X.env) fp) where
  xo := ⟨cx.xo.calm, rfl, cx.xo.hu, cx.xo.gd, cx.xo.nodig⟩
  mono := cx.mono
  N := cx.N
  nd := cx.nd
  sc := by
    show relS scope X.env.scope = _
    rw [cx.sc]
  fn := fun x h => h
  fns := cx.fns
  gls := cx.gls
  ok := fun n q h => let ⟨a, b, ps, k, z⟩ := (cx.ok n q h).ok; ⟨a, b, ps, k, z⟩
  gk := cx.gk
  mgn := cx.mgn
  gcd := cx.gcd
  isq := cx.isq
theorem pts_of {t : IE} (ht : Snd tb t) {c : Ctx} {X : Cx} (cx : CxOk tb c X) {ifs : List Expr} (h : (match ifs with
          | [] => isNil t
          | [y] => !isNil t && (ck t c).t y
          | _ => false) = true) : PTs X ifs (TTs X.K tb t) := by
  split at h
  · refine ⟨fun pins s σ H Q I q => pts_nil.run pins s σ H Q I ?_⟩
    obtain ⟨w, st, env, ok, er, q⟩ := q
    have e : t = .nil := by
      cases t <;> first | rfl | exact ff h
    subst e
    exact q H w Le.refl ok
  · exact pts_one (ht.t c X cx _ (band h).2)
  · cases h
theorem line7 {n : Nat} (h : n < 10000000) : n < sizeLine := by
  rw [sizeLine_eq]; omega
/-- the way through the loop -/
theorem cmpr_go {kd : Nat} {own : List Nat} {tg it t e : IE} (mono : tb.Mono) {K : PySem.W.Frag} (hsl : ∀ j ∈ slotsOf tg, j ∈ own) {σ : L2.St} {H : Hp} {Q : VK}
    (h : TEs K tb (.cmpr kd own tg it t e) σ H Q) : tLc (TIs K tb it) (TGs1 K tb tg) (TTs K tb t) (TEs K tb e) own σ H Q := by
  obtain ⟨w, st, env, ok, er, h⟩ := h
  refine ⟨w, st, env, ok, er, (sem_mono mono it).i _ _ _ _ (fun xs st1 h1 J H1 w1 le1 ok1 ys D nD => ?_) h⟩
  obtain ⟨hlen, h1⟩ := h1
  have er1 := hold_env (o := .lst []) nD ((er.le le1).wipe own)
  refine ⟨fun i m H' => ∃ w' st' vs acc, i ≤ xs.length ∧ m = xs.length - i ∧ acc.length ≤ i ∧ LeP D (upd H1 D (.lst [])) (w1.hold D) st1 H' w' st' ∧ WOk K H' w' st' ∧ H' D = some (.lst vs) ∧ Reps K H' (w'.M st') vs acc ∧
    loopC (sem tb tg).a (sem tb t).t (sem tb e).e (wipeE env own) (xs.drop i) st' acc fun ys s => newL kd ys s (PostW K H w st Q), ?_, ?_⟩
  · exact ⟨xs.length, w1.hold D, st1, [], [], Nat.zero_le _, rfl, Nat.le_refl _, LeP.refl, hold_ok nD ok1, upd_same, .nil, by rw [List.drop_zero]; exact h1⟩
  · rintro i m H' ⟨w', st', vs, acc, hi, hm, ha, lp, ok', hD, rs, hl⟩
    have fr : Fr H1 w1 st1 H' w' st' := fun a u h m => let z := hold_fr (o := .lst []) nD a u h m; lp.fr a u z.1 z.2
    have dF : w'.F D := by
      rw [lp.F]
      exact .inr rfl
    obtain ⟨y1, y2⟩ := ys H' w' st' fr ok' i
    by_cases hx : i < xs.length
    · have hxi : xs[i]? = some xs[i] := List.getElem?_eq_getElem hx
      rw [List.drop_eq_getElem_cons hx] at hl
      obtain ⟨go, y2⟩ := y2 _ hxi
      refine .inr ⟨go, fun H'' => ∃ w'' st'' vs acc, acc.length ≤ i + 1 ∧ LeP D (upd H1 D (.lst [])) (w1.hold D) st1 H'' w'' st'' ∧ WOk K H'' w'' st'' ∧ H'' D = some (.lst vs) ∧ Reps K H'' (w''.M st'') vs acc ∧
        loopC (sem tb tg).a (sem tb t).t (sem tb e).e (wipeE env own) (xs.drop (i + 1)) st'' acc (fun ys s => newL kd ys s (PostW K H w st Q)), fun H'' ⟨w'', st'', vs, acc, a1, a2, a3, a4, a5, a6⟩ => ⟨xs.length - (i + 1), by omega, w'', st'', vs, acc, by omega, rfl, a1, a2, a3, a4, a5, a6⟩, fun v H2 yl => ?_⟩
      obtain ⟨le2, ok2, rv⟩ := y2 v H2 yl
      refine ⟨w', st', wipeE env own, .d xs[i], ok2, (LeP.env er1 lp).le le2, rv, (sem_mono mono tg).a _ _ _ _ (fun env' hc σ2 er2 ch => ⟨wipe_of ch hsl, bT mono t ok2 er2 hc fun b st3 h3 H3 w3 le3 ok3 => ?_⟩) hl⟩
      have hD3 : H3 D = some (.lst vs) := by rw [le3.fo D dF, le2.fo D dF]; exact hD
      cases b with
      | true =>
        have h3 := brT' h3; simp only [if_true]
        refine bE mono e ok3 (er2.le le3) h3 fun ev st4 h4 y H4 w4 le4 ok4 r4 => ?_
        obtain ⟨d, rd, h4⟩ := dE_rep r4 h4
        have d3 : w3.F D := by rw [le3.F]; exact dF
        have d4 : w4.F D := by rw [le4.F]; exact d3
        have lpp := ((lp.step le2).step le3).step le4
        have rs4 := ((rs.le le2).le le3).le le4
        refine ⟨vs, by rw [le4.fo D d3]; exact hD3, line7 (by rw [rs.length]; omega), w4, st4, vs ++ [y], acc ++ [d], by rw [List.length_append, List.length_singleton]; omega, lpp.grow (.inr rfl), grow_ok d4 ok4, upd_same, ?_, h4⟩
        exact (rs4.append (.cons rd .nil)).conv (grow_fr d4)
      | false =>
        have h3 := brF' h3; simp only [Bool.false_eq_true, if_false]
        exact ⟨w3, st3, vs, acc, by omega, (lp.step le2).step le3, ok3, hD3, (rs.le le2).le le3, h3⟩
    · have e : i = xs.length := by omega
      subst e
      rw [List.drop_length] at hl
      obtain ⟨ev, w'', st'', le, ok'', r'', q⟩ := held_lst nD ok1 lp ok' hD rs hl
      exact .inl ⟨y1 (Nat.le_refl _), q _ _ w'' (le1.trans le) ok'' r''⟩
/-- the way through two loops -/
theorem cmpr2_go {kd : Nat} {own : List Nat} {tg it t tg1 it1 t1 e : IE} (mono : tb.Mono) {K : PySem.W.Frag} (hsl : ∀ j ∈ slotsOf tg, j ∈ own) {σ : L2.St} {H : Hp} {Q : VK}
    (h : TEs K tb (.cmpr2 kd own tg it t tg1 it1 t1 e) σ H Q) : tLc2 (TIs K tb it) (TGs1 K tb tg) (TTs K tb t) (TIs K tb it1) (TGs1 K tb tg1) (TTs K tb t1) (TEs K tb e) own (slotsOf tg1) σ H Q := by
  obtain ⟨w, st, env, ok, er, h⟩ := h
  refine ⟨w, st, env, ok, er, (sem_mono mono it).i _ _ _ _ (fun xs st1 h1 J H1 w1 le1 ok1 ys D nD => ?_) h⟩
  have er1 := hold_env (o := .lst []) nD ((er.le le1).wipe own)
  refine ⟨fun i m H' => ∃ w' st' vs acc, i ≤ xs.length ∧ m = xs.length - i ∧ LeP D (upd H1 D (.lst [])) (w1.hold D) st1 H' w' st' ∧ WOk K H' w' st' ∧ H' D = some (.lst vs) ∧ Reps K H' (w'.M st') vs acc ∧
    loopC2 (sem tb tg).a (sem tb t).t (sem tb it1).i (slotsOf tg1) (sem tb tg1).a (sem tb t1).t (sem tb e).e (wipeE env own) (xs.drop i) st' acc fun ys s => newL kd ys s (PostW K H w st Q), ?_, ?_⟩
  · exact ⟨xs.length, w1.hold D, st1, [], [], Nat.zero_le _, rfl, LeP.refl, hold_ok nD ok1, upd_same, .nil, by rw [List.drop_zero]; exact h1⟩
  · rintro i m H' ⟨w', st', vs, acc, hi, hm, lp, ok', hD, rs, hl⟩
    have fr : Fr H1 w1 st1 H' w' st' := fun a u h m => let z := hold_fr (o := .lst []) nD a u h m; lp.fr a u z.1 z.2
    have dF : w'.F D := by
      rw [lp.F]
      exact .inr rfl
    obtain ⟨y1, y2⟩ := ys H' w' st' fr ok' i
    by_cases hx : i < xs.length
    · have hxi : xs[i]? = some xs[i] := List.getElem?_eq_getElem hx
      rw [List.drop_eq_getElem_cons hx] at hl
      obtain ⟨go, y2⟩ := y2 _ hxi
      refine .inr ⟨go, fun H'' => ∃ w'' st'' vs acc, LeP D (upd H1 D (.lst [])) (w1.hold D) st1 H'' w'' st'' ∧ WOk K H'' w'' st'' ∧ H'' D = some (.lst vs) ∧ Reps K H'' (w''.M st'') vs acc ∧
        loopC2 (sem tb tg).a (sem tb t).t (sem tb it1).i (slotsOf tg1) (sem tb tg1).a (sem tb t1).t (sem tb e).e (wipeE env own) (xs.drop (i + 1)) st'' acc (fun ys s => newL kd ys s (PostW K H w st Q)), fun H'' ⟨w'', st'', vs, acc, a2, a3, a4, a5, a6⟩ => ⟨xs.length - (i + 1), by omega, w'', st'', vs, acc, by omega, rfl, a2, a3, a4, a5, a6⟩, fun v H2 yl => ?_⟩
      obtain ⟨le2, ok2, rv⟩ := y2 v H2 yl
      refine ⟨w', st', wipeE env own, .d xs[i], ok2, (LeP.env er1 lp).le le2, rv, (sem_mono mono tg).a _ _ _ _ (fun env' hc σ2 er2 ch => ⟨wipe_of ch hsl, bT mono t ok2 er2 hc fun b st3 h3 H3 w3 le3 ok3 => ?_⟩) hl⟩
      have hD3 : H3 D = some (.lst vs) := by rw [le3.fo D dF, le2.fo D dF]; exact hD
      have d3 : w3.F D := by rw [le3.F]; exact dF
      cases b with
      | true =>
        have h3 := brT' h3; simp only [if_true]
        refine ⟨w3, st3, env', ok3, er2.le le3, (sem_mono mono it1).i _ _ _ _ (fun ys1 st4 h4 J1 H4 w4 le4 ok4 yy => ?_) h3⟩
        obtain ⟨hlen, h4⟩ := h4
        have d4 : w4.F D := by rw [le4.F]; exact d3
        have hD4 : H4 D = some (.lst vs) := by rw [le4.fo D d3]; exact hD3
        have rs4 := ((rs.le le2).le le3).le le4
        have lp4 := ((lp.step le2).step le3).step le4
        have er4 := ((er2.le le3).le le4).wipe (slotsOf tg1)
        refine ⟨fun j k H' => ∃ w' st' vs' acc', j ≤ ys1.length ∧ k = ys1.length - j ∧ acc'.length ≤ acc.length + j ∧ LeP D H4 w4 st4 H' w' st' ∧ WOk K H' w' st' ∧ H' D = some (.lst vs') ∧ Reps K H' (w'.M st') vs' acc' ∧
          loopC (sem tb tg1).a (sem tb t1).t (sem tb e).e (wipeE env' (slotsOf tg1)) (ys1.drop j) st' acc' (fun acc2 st5 => loopC2 (sem tb tg).a (sem tb t).t (sem tb it1).i (slotsOf tg1) (sem tb tg1).a (sem tb t1).t (sem tb e).e (wipeE env own) (xs.drop (i + 1)) st5 acc2 fun ys s => newL kd ys s (PostW K H w st Q)), ?_, ?_⟩
        · exact ⟨ys1.length, w4, st4, vs, acc, Nat.zero_le _, rfl, Nat.le_refl _, LeP.refl, ok4, hD4, rs4, by rw [List.drop_zero]; exact h4⟩
        · rintro j k H5 ⟨w5, st5, vs5, acc5, hj, hk, ha, lp5, ok5, hD5, rs5, hl5⟩
          have d5 : w5.F D := by rw [lp5.F]; exact d4
          obtain ⟨z1, z2⟩ := yy H5 w5 st5 lp5.fr ok5 j
          by_cases hy : j < ys1.length
          · have hyj : ys1[j]? = some ys1[j] := List.getElem?_eq_getElem hy
            rw [List.drop_eq_getElem_cons hy] at hl5
            obtain ⟨go1, z2⟩ := z2 _ hyj
            refine .inr ⟨go1, fun H'' => ∃ w'' st'' vs' acc', acc'.length ≤ acc.length + (j + 1) ∧ LeP D H4 w4 st4 H'' w'' st'' ∧ WOk K H'' w'' st'' ∧ H'' D = some (.lst vs') ∧ Reps K H'' (w''.M st'') vs' acc' ∧
              loopC (sem tb tg1).a (sem tb t1).t (sem tb e).e (wipeE env' (slotsOf tg1)) (ys1.drop (j + 1)) st'' acc' (fun acc2 st5 => loopC2 (sem tb tg).a (sem tb t).t (sem tb it1).i (slotsOf tg1) (sem tb tg1).a (sem tb t1).t (sem tb e).e (wipeE env own) (xs.drop (i + 1)) st5 acc2 fun ys s => newL kd ys s (PostW K H w st Q)),
              fun H'' ⟨w'', st'', vs, acc, a1, a2, a3, a4, a5, a6⟩ => ⟨ys1.length - (j + 1), by omega, w'', st'', vs, acc, by omega, rfl, a1, a2, a3, a4, a5, a6⟩, fun v1 H6 yl1 => ?_⟩
            obtain ⟨le6, ok6, rv6⟩ := z2 v1 H6 yl1
            refine ⟨w5, st5, wipeE env' (slotsOf tg1), .d ys1[j], ok6, (LeP.env er4 lp5).le le6, rv6, (sem_mono mono tg1).a _ _ _ _ (fun env'' hc1 σ3 er3 ch1 => ⟨wipe_of ch1 fun _ h => h, bT mono t1 ok6 er3 hc1 fun b1 st7 h7 H7 w7 le7 ok7 => ?_⟩) hl5⟩
            have hD7 : H7 D = some (.lst vs5) := by rw [le7.fo D d5, le6.fo D d5]; exact hD5
            cases b1 with
            | true =>
              have h7 := brT' h7; simp only [if_true]
              refine bE mono e ok7 (er3.le le7) h7 fun ev st8 h8 y H8 w8 le8 ok8 r8 => ?_
              obtain ⟨d, rd, h8⟩ := dE_rep r8 h8
              have d7 : w7.F D := by rw [le7.F]; exact d5
              have d8 : w8.F D := by rw [le8.F]; exact d7
              have lpp := ((lp5.step le6).step le7).step le8
              have rs8 := ((rs5.le le6).le le7).le le8
              refine ⟨vs5, by rw [le8.fo D d7]; exact hD7, line7 (by rw [rs5.length]; omega), w8, st8, vs5 ++ [y], acc5 ++ [d], by rw [List.length_append, List.length_singleton]; omega, lpp.grow d4, grow_ok d8 ok8, upd_same, ?_, h8⟩
              exact (rs8.append (.cons rd .nil)).conv (grow_fr d8)
            | false =>
              have h7 := brF' h7; simp only [Bool.false_eq_true, if_false]
              exact ⟨w7, st7, vs5, acc5, by omega, (lp5.step le6).step le7, ok7, hD7, (rs5.le le6).le le7, h7⟩
          · have e5 : j = ys1.length := by omega
            subst e5
            rw [List.drop_length] at hl5
            exact .inl ⟨z1 (Nat.le_refl _), w5, st5, vs5, acc5, lp4.trans lp5, ok5, hD5, rs5, hl5⟩
      | false =>
        have h3 := brF' h3; simp only [Bool.false_eq_true, if_false]
        exact ⟨w3, st3, vs, acc, (lp.step le2).step le3, ok3, hD3, (rs.le le2).le le3, h3⟩
    · have e : i = xs.length := by omega
      subst e
      rw [List.drop_length] at hl
      obtain ⟨ev, w'', st'', le, ok'', r'', q⟩ := held_lst nD ok1 lp ok' hD rs hl
      exact .inl ⟨y1 (Nat.le_refl _), q _ _ w'' (le1.trans le) ok'' r''⟩
theorem pts_ofB {t : IE} (ht : Snd tb t) {c : Ctx} {X : Cx} (cx : CxOk tb c X) {ifs : List Expr} (h : ifsB (isNil t) (ck t c).t ifs = true) : PTs X ifs (TTs X.K tb t) := by
  refine pts_of ht cx ?_
  unfold ifsB at h
  split at h
  · exact h
  · exact h
  · cases h
theorem snd_cmpr2 (kd : Nat) (own : List Nat) {tg it t tg1 it1 t1 e : IE} (hg : Snd tb tg) (hi : Snd tb it) (ht : Snd tb t) (hg1 : Snd tb tg1) (hi1 : Snd tb it1) (ht1 : Snd tb t1) (he : Snd tb e) : Snd tb (.cmpr2 kd own tg it t tg1 it1 t1 e) := sndE (f := fun c x => (ck (.cmpr2 kd own tg it t tg1 it1 t1 e) c).e x) (fun c X cx x h => by
  have form : ∃ elt tgx itx ifs a tgx1 itx1 ifs1 a1 scope pos, x = .ListComp elt [⟨tgx, itx, ifs, a⟩, ⟨tgx1, itx1, ifs1, a1⟩] scope pos := by
    cases x with
    | ListComp elt gs scope pos =>
      cases gs with
      | nil => exact ff h
      | cons g gs =>
        cases gs with
        | nil =>
          obtain ⟨a, b, c, d⟩ := g
          exact ff h
        | cons g1 gs =>
          cases gs with
          | nil =>
            obtain ⟨a, b, c, d⟩ := g
            obtain ⟨a1, b1, c1, d1⟩ := g1
            exact ⟨_, _, _, _, _, _, _, _, _, _, _, rfl⟩
          | cons _ _ =>
            obtain ⟨a, b, c, d⟩ := g
            obtain ⟨a1, b1, c1, d1⟩ := g1
            exact ff h
    | _ => exact ff h
  obtain ⟨elt, tgx, itx, ifs, a, tgx1, itx1, ifs1, a1, scope, pos, rfl⟩ := form
  obtain ⟨h1, h⟩ := band h
  obtain ⟨h2, h⟩ := band h
  obtain ⟨h3, h⟩ := band h
  obtain ⟨h4, h⟩ := band h
  obtain ⟨h5, h⟩ := band h
  obtain ⟨h6, h⟩ := band h
  obtain ⟨h7, h⟩ := band h
  obtain ⟨h8, h⟩ := band h
  obtain ⟨h9, h⟩ := band h
  obtain ⟨h10, h⟩ := band h
  obtain ⟨h11, h⟩ := band h
  obtain ⟨h12, h⟩ := band h
  obtain ⟨h13, h14⟩ := band h
  have e1 := of_decide_eq_true h1
  have e2 := of_decide_eq_true h2
  subst e1 e2
  have ho : (own.map fun i => (c.N.getD i Str.empty, i)).map (·.2) = own := by
    rw [List.map_map]
    exact (List.map_congr_left fun _ _ => rfl).trans (List.map_id _)
  have bk : BlkOk X.N X.env.scope scope (own.map fun i => (c.N.getD i Str.empty, i)) := by rw [cx.N, cx.sc]; exact blkOk_by h3
  have r1 : ∀ (s : Shared) (H : Hp) (C : Addr) (cl : List (Str × Addr)) (fp : List Addr), PG (X.blk s H scope (compEnvC scope cl C X.env) fp) tgx (TGs1 X.K tb tg) := fun s H C cl fp => hg.g _ _ (cx.blk s H scope cl C fp) _ h6
  have r2 : ∀ (s : Shared) (H : Hp) (C : Addr) (cl : List (Str × Addr)) (fp : List Addr), PTs (X.blk s H scope (compEnvC scope cl C X.env) fp) ifs (TTs X.K tb t) := fun s H C cl fp => pts_ofB ht (cx.blk s H scope cl C fp) h8
  have r3 : ∀ (s : Shared) (H : Hp) (C : Addr) (cl : List (Str × Addr)) (fp : List Addr), PI (X.blk s H scope (compEnvC scope cl C X.env) fp) tgx1 itx1 (TIs X.K tb it1) := fun s H C cl fp => hi1.i _ _ (cx.blk s H scope cl C fp) _ _ h9
  have r4 : ∀ (s : Shared) (H : Hp) (C : Addr) (cl : List (Str × Addr)) (fp : List Addr), PG (X.blk s H scope (compEnvC scope cl C X.env) fp) tgx1 (TGs1 X.K tb tg1) := fun s H C cl fp => hg1.g _ _ (cx.blk s H scope cl C fp) _ h11
  have r5 : ∀ (s : Shared) (H : Hp) (C : Addr) (cl : List (Str × Addr)) (fp : List Addr), PTs (X.blk s H scope (compEnvC scope cl C X.env) fp) ifs1 (TTs X.K tb t1) := fun s H C cl fp => pts_ofB ht1 (cx.blk s H scope cl C fp) h13
  have r6 : ∀ (s : Shared) (H : Hp) (C : Addr) (cl : List (Str × Addr)) (fp : List Addr), PE (X.blk s H scope (compEnvC scope cl C X.env) fp) elt (TEs X.K tb e) := fun s H C cl fp => he.e _ _ (cx.blk s H scope cl C fp) _ h14
  have q := pe_lc2 (pos := pos) (vs1 := slotsOf tg1) cx.xo.calm cx.nd (hi.i c X cx _ _ h4) bk
    (fun i hm => by rw [ho]; exact of_decide_eq_true (List.all_eq_true.mp h12 i hm)) r1 r2 r3 r4 r5 r6 (fold_of h5) (fun env => fold_of h10)
  rw [ho] at q
  exact PE.mono q fun σ H Q h => cmpr2_go cx.mono (fun j hj => of_decide_eq_true (List.all_eq_true.mp h7 j hj)) h) (fun _ => rfl)
/-- the parts of a comprehension's text -/
theorem lc_parts {kd : Nat} {own : List Nat} {tg it t e : IE} (hg : Snd tb tg) (hi : Snd tb it) (ht : Snd tb t) (he : Snd tb e) {c : Ctx} {X : Cx} (cx : CxOk tb c X) {elt tgx itx : Expr} {ifs : List Expr} {a : Int} {scope : Scope} {pos : Pos}
    (h : (ck (.cmpr kd own tg it t e) c).e (.ListComp elt [⟨tgx, itx, ifs, a⟩] scope pos) = true) :
    a = 0 ∧ BlkOk X.N X.env.scope scope (own.map fun i => (c.N.getD i Str.empty, i)) ∧ (own.map fun i => (c.N.getD i Str.empty, i)).map (·.2) = own ∧ PI X tgx itx (TIs X.K tb it) ∧ (∀ x, foldedSetIterable itx X.env x = pure x) ∧ (∀ j ∈ slotsOf tg, j ∈ own) ∧
      (∀ (s : Shared) (H : Hp) (C : Addr) (cl : List (Str × Addr)) (fp : List Addr), PG (X.blk s H scope (compEnvC scope cl C X.env) fp) tgx (TGs1 X.K tb tg)) ∧
      (∀ (s : Shared) (H : Hp) (C : Addr) (cl : List (Str × Addr)) (fp : List Addr), PTs (X.blk s H scope (compEnvC scope cl C X.env) fp) ifs (TTs X.K tb t)) ∧
      (∀ (s : Shared) (H : Hp) (C : Addr) (cl : List (Str × Addr)) (fp : List Addr), PE (X.blk s H scope (compEnvC scope cl C X.env) fp) elt (TEs X.K tb e)) := by
  obtain ⟨h1, hA⟩ := band h
  obtain ⟨h2, hB⟩ := band hA
  obtain ⟨h3, hC⟩ := band hB
  obtain ⟨h4, hD⟩ := band hC
  obtain ⟨h5, hE⟩ := band hD
  obtain ⟨h6, hF⟩ := band hE
  obtain ⟨h7, h8⟩ := band hF
  refine ⟨of_decide_eq_true h1, by rw [cx.N, cx.sc]; exact blkOk_by h2, ?_, hi.i c X cx _ _ h3, fold_of h4, ?_, fun s H C cl fp => hg.g _ _ (cx.blk s H scope cl C fp) _ h5, fun s H C cl fp => pts_of ht (cx.blk s H scope cl C fp) h7, fun s H C cl fp => he.e _ _ (cx.blk s H scope cl C fp) _ h8⟩
  · rw [List.map_map]
    exact (List.map_congr_left fun _ _ => rfl).trans (List.map_id _)
  · intro j hj
    exact of_decide_eq_true (List.all_eq_true.mp h6 j hj)
theorem lc_form {kd : Nat} {own : List Nat} {tg it t e : IE} {c : Ctx} {x : Expr} (h : (ck (.cmpr kd own tg it t e) c).e x = true) : ∃ elt tgx itx ifs a scope pos, x = .ListComp elt [⟨tgx, itx, ifs, a⟩] scope pos := by
  cases x with
  | ListComp elt gs scope pos =>
    cases gs with
    | nil => exact ff h
    | cons g gs =>
      cases gs with
      | nil =>
        obtain ⟨a, b, c, d⟩ := g
        exact ⟨_, _, _, _, _, _, _, rfl⟩
      | cons _ _ =>
        obtain ⟨a, b, c, d⟩ := g
        exact ff h
  | _ => exact ff h
theorem snd_cmpr (kd : Nat) (own : List Nat) {tg it t e : IE} (hg : Snd tb tg) (hi : Snd tb it) (ht : Snd tb t) (he : Snd tb e) : Snd tb (.cmpr kd own tg it t e) := sndE (f := fun c x => (ck (.cmpr kd own tg it t e) c).e x) (fun c X cx x h => by
  obtain ⟨elt, tgx, itx, ifs, a, scope, pos, rfl⟩ := lc_form h
  obtain ⟨a0, ok, ho, pi, fs, sl, pg, pt, pe⟩ := lc_parts hg hi ht he cx h
  subst a0
  have q := pe_lc (pos := pos) cx.xo.calm cx.nd pi ok pg pt pe fs
  rw [ho] at q
  exact PE.mono q fun σ H Q h => cmpr_go cx.mono sl h) (fun _ => rfl)
mutual
theorem snd (tb : Tb) : ∀ ie : IE, Snd tb ie
  | .cst d => snd_cst d
  | .var i => snd_var i
  | .glo k => snd_glo k
  | .bin o a b => snd_bin o (snd tb a) (snd tb b)
  | .neg a => snd_neg (snd tb a)
  | .nt a => snd_nt (snd tb a)
  | .cmp o a b => snd_cmp o (snd tb a) (snd tb b)
  | .cmp2 o p a b c => snd_cmp2 o p (snd tb a) (snd tb b) (snd tb c)
  | .isN a => snd_isN (snd tb a)
  | .notN a => snd_notN (snd tb a)
  | .an a b => snd_an (snd tb a) (snd tb b)
  | .oo a b => snd_oo (snd tb a) (snd tb b)
  | .ife t a b => snd_ife (snd tb t) (snd tb a) (snd tb b)
  | .nil => snd_nil
  | .cons a r => snd_cons (snd tb a) (snd tb r)
  | .tup r => snd_tup (snd tb r)
  | .lst kd r => snd_lst kd (snd tb r)
  | .ixc a n => snd_ixc n (snd tb a)
  | .ix a i => snd_ix (snd tb a) (snd tb i)
  | .sl kd a lo hi => snd_sl kd (snd tb a) (snd tb lo) (snd tb hi)
  | .call n r => snd_call n (snd tb r)
  | .blt b kd r => snd_blt b kd (snd tb r)
  | .cmpr kd own tg it t e => snd_cmpr kd own (snd tb tg) (snd tb it) (snd tb t) (snd tb e)
  | .rng r => snd_rng (snd tb r)
  | .enm r => snd_enm (snd tb r)
  | .zp r => snd_zp (snd tb r)
  | .isi a t => snd_isi t (snd tb a)
  | .scons a r => ⟨fun c X cx e h => ff h, fun c X cx e h => ff h, fun c X cx es h => ff h, fun c X cx tg it h => ff h, fun c X cx e h => ff h, fun c X cx es h => ff h, fun c X cx o h => ff h⟩
  | .tupS r => snd_tupS (sndLs tb r)
  | .lstS kd r => snd_lstS kd (sndLs tb r)
  | .srs kd a => snd_srs kd (snd tb a)
  | .srl kd a => snd_srl kd (snd tb a)
  | .lop kd o a b => snd_lop kd o (snd tb a) (snd tb b)
  | .idx a x => snd_idx (snd tb a) (snd tb x)
  | .dget ks a b => snd_dget ks (snd tb a) (snd tb b)
  | .callS n ar r => snd_callS n ar (sndLs tb r)
  | .cmpr2 kd own tg it t tg1 it1 t1 e => snd_cmpr2 kd own (snd tb tg) (snd tb it) (snd tb t) (snd tb tg1) (snd tb it1) (snd tb t1) (snd tb e)
  | .isB neg a b => snd_isB neg (snd tb a) (snd tb b)
  | .sri kd a => snd_sri kd (snd tb a)
  | .ssi kd a => snd_ssi kd (snd tb a)
  | .rgv tp kd a => snd_rgv tp kd (snd tb a)
theorem sndLs (tb : Tb) : ∀ ie : IE, SndLs tb ie
  | .nil => ls_nil
  | .cons a r => ls_cons (snd tb a) (sndLs tb r)
  | .scons a r => ls_scons (snd tb a) (sndLs tb r)
  | .cst _ => ⟨fun c X cx es h => ff h⟩
  | .var _ => ⟨fun c X cx es h => ff h⟩
  | .glo _ => ⟨fun c X cx es h => ff h⟩
  | .bin _ _ _ => ⟨fun c X cx es h => ff h⟩
  | .neg _ => ⟨fun c X cx es h => ff h⟩
  | .nt _ => ⟨fun c X cx es h => ff h⟩
  | .cmp _ _ _ => ⟨fun c X cx es h => ff h⟩
  | .cmp2 _ _ _ _ _ => ⟨fun c X cx es h => ff h⟩
  | .isN _ => ⟨fun c X cx es h => ff h⟩
  | .notN _ => ⟨fun c X cx es h => ff h⟩
  | .an _ _ => ⟨fun c X cx es h => ff h⟩
  | .oo _ _ => ⟨fun c X cx es h => ff h⟩
  | .ife _ _ _ => ⟨fun c X cx es h => ff h⟩
  | .tup _ => ⟨fun c X cx es h => ff h⟩
  | .lst _ _ => ⟨fun c X cx es h => ff h⟩
  | .ixc _ _ => ⟨fun c X cx es h => ff h⟩
  | .ix _ _ => ⟨fun c X cx es h => ff h⟩
  | .sl _ _ _ _ => ⟨fun c X cx es h => ff h⟩
  | .call _ _ => ⟨fun c X cx es h => ff h⟩
  | .blt _ _ _ => ⟨fun c X cx es h => ff h⟩
  | .cmpr _ _ _ _ _ _ => ⟨fun c X cx es h => ff h⟩
  | .rng _ => ⟨fun c X cx es h => ff h⟩
  | .enm _ => ⟨fun c X cx es h => ff h⟩
  | .zp _ => ⟨fun c X cx es h => ff h⟩
  | .isi _ _ => ⟨fun c X cx es h => ff h⟩
  | .tupS _ => ⟨fun c X cx es h => ff h⟩
  | .lstS _ _ => ⟨fun c X cx es h => ff h⟩
  | .srs _ _ => ⟨fun c X cx es h => ff h⟩
  | .srl _ _ => ⟨fun c X cx es h => ff h⟩
  | .lop _ _ _ _ => ⟨fun c X cx es h => ff h⟩
  | .idx _ _ => ⟨fun c X cx es h => ff h⟩
  | .dget _ _ _ => ⟨fun c X cx es h => ff h⟩
  | .callS _ _ _ => ⟨fun c X cx es h => ff h⟩
  | .cmpr2 _ _ _ _ _ _ _ _ _ => ⟨fun c X cx es h => ff h⟩
  | .isB _ _ _ => ⟨fun c X cx es h => ff h⟩
  | .sri _ _ => ⟨fun c X cx es h => ff h⟩
  | .ssi _ _ => ⟨fun c X cx es h => ff h⟩
  | .rgv _ _ _ => ⟨fun c X cx es h => ff h⟩
end
end
end VI

/-! VI13: the check of statements; parts of its soundness. -/
namespace VI
open PySem PySem.Spec PyProof.Rows L2
def notComp : Expr → Bool
  | .ListComp .. => false
  | .SetComp .. => false
  | .DictComp .. => false
  | _ => true
def funB (sc : Scope) : Bool := match sc.kind with
  | .function => true
  | _ => false
def swN (sc : Scope) (line : Nat) : Expr → Option Str
  | .Name id pos => if sc.names.lookup id == some .local && pos.line == line then some id else none
  | _ => none
/-- none: not known; some none: from the left; some (some ..): from the right -/
def swB2 (sc : Scope) (ts vs : List Expr) : Option (Option (List Str)) :=
  if (!(ts.length == 2 || ts.length == 3) || vs.length != ts.length) = true then some none
  else if (vs.any fun | .Starred .. => true | _ => false) = true then some none
  else if ((ts.filterMap (swN sc ((ts.head?.map (·.pos.line)).getD 0))).length != ts.length || (ts.filterMap (swN sc ((ts.head?.map (·.pos.line)).getD 0))).eraseDups.length != (ts.filterMap (swN sc ((ts.head?.map (·.pos.line)).getD 0))).length) = true then some none
  else if (vs.all (foldedForSure 8)) = true then some none
  else if (vs.all (constantsAlone 8)) = true then none
  else some (some (ts.filterMap (swN sc ((ts.head?.map (·.pos.line)).getD 0))))
def swB (sc : Scope) (t v : Expr) : Option (Option (List Str)) := match t with
  | .Tuple ts _ _ => (match v with
    | .Tuple vs _ _ => swB2 sc ts vs
    | _ => some none)
  | .List _ _ => none
  | _ => some none
theorem swaps_of {e : Expr} {t : Option Expr} {l : Nat} {env : Env} (h : notComp e = true) : swapsWith e t l env = pure false := by
  cases e <;> first | rfl | cases h
theorem swN_eq (env : Env) (line : Nat) : (fun (x : Expr) => match x with
    | .Name id pos => if env.kindOf id == some .local && pos.line == line then some id else none
    | _ => none) = swN env.scope line := by
  funext x
  cases x <;> rfl
theorem stores_of {t v : Expr} {env : Env} {r : Option (List Str)} (hf : funB env.scope = true) (h : swB env.scope t v = some r) : swappedStores [t] v env = pure r := by
  have hk : env.scope.kind = .function := by
    unfold funB at hf
    split at hf
    · assumption
    · cases hf
  have hb : env.blockKind = .function := by
    unfold Env.blockKind
    rw [hk]
    rfl
  cases t with
  | Tuple ts k p =>
    cases v with
    | Tuple vs k2 p2 =>
      have h : swB2 env.scope ts vs = some r := h
      unfold swB2 at h
      unfold swappedStores
      simp only [hb]
      have e1 : ((ScopeKind.function != ScopeKind.function) = false) := rfl
      simp only [e1, Bool.or_false]
      split at h
      · cases h
        rename_i h1
        exact if_pos h1
      · rename_i h1
        refine (if_neg h1).trans ?_
        split at h
        · cases h
          rename_i h2
          try simp only [pure_bind]
          exact if_pos h2
        · rename_i h2
          try simp only [pure_bind]
          refine (if_neg h2).trans ?_
          try simp only [pure_bind, swN_eq]
          split at h
          · cases h
            rename_i h3
            exact if_pos h3
          · rename_i h3
            refine (if_neg h3).trans ?_
            try simp only [pure_bind]
            split at h
            · cases h
              rename_i h4
              exact if_pos h4
            · rename_i h4
              refine (if_neg h4).trans ?_
              try simp only [pure_bind]
              split at h
              · cases h
              · cases h
                rename_i h5
                refine (if_neg h5).trans ?_
                try rfl
    | _ => cases h; rfl
  | List ts p => cases h
  | _ => cases h; rfl
/-! ### the check -/
def isLc : Expr → Bool
  | .ListComp .. => true
  | _ => false
def noSw : Expr → Expr → Bool
  | .Tuple _ _ _, _ => true
  | _, vx => notComp vx
def cA (t e : IE) (c : Ctx) (tx vx : Expr) : Bool := notStar tx && (noSw tx vx && ((match swB c.sc tx vx with
  | some none => true
  | _ => false) && (funB c.sc && ((ck t c).g tx && (ck e c).e vx))))
def cC (t e : IE) (c : Ctx) (tx vx : Expr) : Bool := match t, e, tx, vx with
  | .var i, .cmpr kd own tg it tt el, .Name y py, .ListComp elt [⟨tgx, itx, ifs, a⟩] scope pos => decide (c.N[i]? = some y) && (isLoc c.sc y && ((py.line == pos.line) && (!(scope.names.any fun (n, k) => n == y && (k == .local || k == .cell)) && (funB c.sc && (ck (.cmpr kd own tg it tt el) c).e (.ListComp elt [⟨tgx, itx, ifs, a⟩] scope pos)))))
  | _, _, _, _ => false
def cB2 (t e : IE) (c : Ctx) (tx vx : Expr) : Bool := match t, e, tx, vx with
  | .tup (.cons (.var i) (.cons (.var j) .nil)), .tup r, .Tuple [.Name x px, .Name y py] kt pt, .Tuple [a, b] k2 pt2 => decide (c.N[i]? = some x) && (decide (c.N[j]? = some y) && (decide (i ≠ j) && (isLoc c.sc x && (isLoc c.sc y && ((ck r c).l [a, b] && (decide (swB c.sc (.Tuple [.Name x px, .Name y py] kt pt) (.Tuple [a, b] k2 pt2) = some (some [x, y])) && funB c.sc))))))
  | _, _, _, _ => false
def cB3 (t e : IE) (c : Ctx) (tx vx : Expr) : Bool := match t, e, tx, vx with
  | .tup (.cons (.var i) (.cons (.var j) (.cons (.var l) .nil))), .tup r, .Tuple [.Name x px, .Name y py, .Name z pz] kt pt, .Tuple [a, b, d] k2 pt2 => decide (c.N[i]? = some x) && (decide (c.N[j]? = some y) && (decide (c.N[l]? = some z) && (decide (i ≠ j) && (decide (i ≠ l) && (decide (j ≠ l) && (isLoc c.sc x && (isLoc c.sc y && (isLoc c.sc z && ((ck r c).l [a, b, d] &&
      (decide (swB c.sc (.Tuple [.Name x px, .Name y py, .Name z pz] kt pt) (.Tuple [a, b, d] k2 pt2) = some (some [x, y, z])) && funB c.sc))))))))))
  | _, _, _, _ => false
def lcB (c : Ctx) (x : Str) : Bool := locB c.sc x && (c.fn x || isLoc c.sc x)
def cB4 (is : List Nat) (r : IE) (c : Ctx) (tx vx : Expr) : Bool := match is, tx, vx with
  | [i, j, l, m], .Tuple [.Name x px, .Name y py, .Name z pz, .Name u pu] kt pt, .Tuple es k2 pt2 => decide (c.N[i]? = some x) && (decide (c.N[j]? = some y) && (decide (c.N[l]? = some z) && (decide (c.N[m]? = some u) && (lcB c x && (lcB c y && (lcB c z && (lcB c u && ((ck r c).l es && (decide (es.length = 4) && (decide (swB c.sc (.Tuple [.Name x px, .Name y py, .Name z pz, .Name u pu] kt pt) (.Tuple es k2 pt2) = some none) && funB c.sc))))))))))
  | _, _, _ => false
structure CKS where
  s : Stmt → Bool
  ss : List Stmt → Bool
def one (f : Stmt → Bool) : CKS := ⟨f, fun ss => match ss with
  | [x] => f x
  | _ => false⟩
def meth (name : Str) (a e : IE) (c : Ctx) : Stmt → Bool
  | .Expr (.Call (.Attribute o m ap) [x] [] cp) _ => decide (m = name) && (notCall o && ((ap.endLine == cp.line) && (notStar x && ((ck a c).e o && (ck e c).e x))))
  | _ => false
def meth2 (name : Str) (a i e : IE) (c : Ctx) : Stmt → Bool
  | .Expr (.Call (.Attribute o m ap) [j, x] [] cp) _ => decide (m = name) && (notCall o && ((ap.endLine == cp.line) && (notStar j && (notStar x && ((ck a c).e o && ((ck i c).e j && (ck e c).e x))))))
  | _ => false
def isFr : IS → Option Nat
  | .freeze i => some i
  | _ => none
def ckS : IS → Ctx → CKS
  | .skip, c => ⟨fun x => match x with
      | .Pass _ => true
      | .Expr (.Constant (.str _) _ _) _ => true
      | _ => false, fun ss => ss.isEmpty⟩
  | .seq a b, c => ⟨fun _ => false, fun ss => match isFr a with
      | some _ => (ckS b c).ss ss
      | none => (match ss with
        | x :: r => (ckS a c).s x && (ckS b c).ss r
        | [] => false)⟩
  | .asg t e, c => one fun x => match x with
      | .Assign [tx] vx _ => cA t e c tx vx || (cC t e c tx vx || (cB2 t e c tx vx || cB3 t e c tx vx))
      | _ => false
  | .aug o i e, c => one fun x => match x with
      | .AugAssign (.Name y _) op v _ => decide (op = opA o) && (decide (c.N[i]? = some y) && (locB c.sc y && ((c.fn y || isLoc c.sc y) && (ck e c).e v)))
      | _ => false
  | .augS o a i e, c => one fun x => match x with
      | .AugAssign (.Subscript ox ix _) op v _ => decide (op = opA o) && (notSlice ix && ((ck a c).e ox && ((ck i c).e ix && (ck e c).e v)))
      | _ => false
  | .setI a i e, c => one fun x => match x with
      | .Assign [.Subscript ox ix _] v _ => notComp v && (notSlice ix && ((ck a c).e ox && ((ck i c).e ix && (ck e c).e v)))
      | _ => false
  | .app a e, c => one (meth "append" a e c)
  | .ext a e, c => one (meth "extend" a e c)
  | .ins a i e, c => one (meth2 "insert" a i e c)
  | .exp e, c => one fun x => match x with
      | .Expr v _ => notComp v && (ck e c).e v
      | _ => false
  | .ifs t a b, c => one fun x => match x with
      | .If q p r _ => (ck t c).t q && ((ckS a c).ss p && (ckS b c).ss r)
      | _ => false
  | .whl t b, c => one fun x => match x with
      | .While q p [] _ => (ck t c).t q && (ckS b c).ss p
      | _ => false
  | .fr t it b, c => one fun x => match x with
      | .For tx ix p [] _ => notSet ix && ((ck it c).i tx ix && ((ck t c).g tx && (ckS b c).ss p))
      | _ => false
  | .ret e, c => one fun x => match x with
      | .Return (some v) _ => (ck e c).e v
      | _ => false
  | .ret0, _ => one fun x => match x with
      | .Return none _ => true
      | _ => false
  | .brk, _ => one fun x => match x with
      | .Break _ => true
      | _ => false
  | .cont, _ => one fun x => match x with
      | .Continue _ => true
      | _ => false
  | .never, _ => ⟨fun _ => true, fun _ => true⟩
  | .par is r, c => one fun x => match x with
      | .Assign [tx] vx _ => (match is with
        | [i, j] => cB2 (.tup (.cons (.var i) (.cons (.var j) .nil))) (.tup r) c tx vx
        | [i, j, l] => cB3 (.tup (.cons (.var i) (.cons (.var j) (.cons (.var l) .nil)))) (.tup r) c tx vx
        | [i, j, l, m] => cB4 [i, j, l, m] r c tx vx
        | _ => false)
      | _ => false
  | .freeze _, _ => ⟨fun _ => false, fun _ => false⟩
/-! ### the reading -/
section
variable (K : PySem.W.Frag) (tb : Tb) (b : IS)
abbrev ksOf (D : Ends) (H : Hp) (w : Wd) (st : Sto) : KS where
  nx := fun env' st' => ∀ σ' H' w', Le H w st H' w' st' → WOk K H' w' st' → EnvRep K H' w' st' σ' env' → D.nx σ' H'
  rt := PostW K H w st D.rt
  bk := fun env' st' => ∀ σ' H' w', Le H w st H' w' st' → WOk K H' w' st' → EnvRep K H' w' st' σ' env' → D.bk σ' H'
  ct := fun env' st' => ∀ σ' H' w', Le H w st H' w' st' → WOk K H' w' st' → EnvRep K H' w' st' σ' env' → D.ct σ' H'
abbrev TSs : TS := fun D σ H => ∃ w st env, WOk K H w st ∧ EnvRep K H w st σ env ∧ semS tb b env st (ksOf K D H w st)
end
section
variable {K : PySem.W.Frag} {tb : Tb} {H H1 : Hp} {w w1 : Wd} {st st1 : Sto} {D : Ends}
theorem ksOf_le (le : Le H w st H1 w1 st1) : (ksOf K D H w st).Le (ksOf K D H1 w1 st1) :=
  ⟨fun e s h σ' H' w' l => h σ' H' w' (le.trans l), fun e s h v H' w' l => h v H' w' (le.trans l), fun e s h σ' H' w' l => h σ' H' w' (le.trans l), fun e s h σ' H' w' l => h σ' H' w' (le.trans l)⟩
/-- on from a later world -/
theorem on_le {b : IS} {σ : L2.St} {env : En} (ht : tb.Mono) (le : Le H w st H1 w1 st1) (ok : WOk K H1 w1 st1) (er : EnvRep K H1 w1 st1 σ env) (h : semS tb b env st1 (ksOf K D H w st)) : TSs K tb b D σ H1 :=
  ⟨w1, st1, env, ok, er, semS_mono ht b _ _ _ _ (ksOf_le le) h⟩
theorem freeze_ok {n : Nat} {a : Addr} {xs : List V} {ds : List VI.D} (ok : WOk K H w st) (hl : st.l[n]? = some (some ds)) (ha : w.la[n]? = some a) :
    Le H w st H w ⟨st.g, st.l.set n none⟩ ∧ WOk K H w ⟨st.g, st.l.set n none⟩ ∧ Rep K H (w.M ⟨st.g, st.l.set n none⟩) (.ref a) (.list ds) := by
  have hn : n < st.l.length := (List.getElem?_eq_some_iff.mp hl).1
  have hM : ∀ b, w.M ⟨st.g, st.l.set n none⟩ b → w.M st b := fun b q => by
    rcases q with q | ⟨i, ys, q, q2⟩ | q
    · exact .inl q
    · have q2 : (st.l.set n none)[i]? = some (some ys) := q2
      by_cases e : n = i
      · subst e
        rw [List.getElem?_set_self hn] at q2
        cases q2
      · rw [List.getElem?_set_ne e] at q2
        exact .inr (.inl ⟨i, ys, q, q2⟩)
    · exact .inr (.inr q)
  have fr : Fr H w st H w ⟨st.g, st.l.set n none⟩ := fun b o h m => ⟨h, fun q => m (hM b q)⟩
  have hmem : a ∈ w.la := List.mem_iff_getElem?.mpr ⟨n, ha⟩
  have na : ¬ w.M ⟨st.g, st.l.set n none⟩ a := fun q => by
    rcases q with q | ⟨i, ys, q, q2⟩ | q
    · exact nodup_parts ok.nd q hmem
    · have e : n = i := nodup_ix (ok.nd.sublist (List.sublist_append_right _ _)) ha q
      subst e
      have q2 : (st.l.set n none)[n]? = some (some ys) := q2
      rw [List.getElem?_set_self hn] at q2
      cases q2
    · exact (ok.fF a q).2.2 hmem
  obtain ⟨a', vs, e, z, r⟩ := ok.l n ds hl
  rw [ha] at e
  cases e
  refine ⟨⟨rfl, ⟨[], by simp⟩, ⟨[], by simp⟩, fr, fun _ _ => rfl⟩, ⟨ok.lg, by rw [ok.ll]; simp, fun i ys h => ?_, fun i ys h => ?_, fun i b h e => ?_, ok.nd, ok.fF⟩, .lst z na (r.conv fr)⟩
  · obtain ⟨b, us, e, z, q⟩ := ok.g i ys h
    exact ⟨b, us, e, z, q.conv fr⟩
  · have h : (st.l.set n none)[i]? = some (some ys) := h
    by_cases e : n = i
    · subst e
      rw [List.getElem?_set_self hn] at h
      cases h
    · rw [List.getElem?_set_ne e] at h
      obtain ⟨b, us, e, z, q⟩ := ok.l i ys h
      exact ⟨b, us, e, z, q.conv fr⟩
  · have h : (st.l.set n none)[i]? = some none := h
    by_cases e2 : n = i
    · subst e2
      rw [ha] at e
      cases e
      exact ⟨vs, z⟩
    · rw [List.getElem?_set_ne e2] at h
      exact ok.fz i b h e
theorem set_self {σ : L2.St} {i : Nat} {v : V} (h : σ[i]? = some (some v)) : σ.set i (some v) = σ := by
  refine List.ext_getElem? fun j => ?_
  by_cases e : i = j
  · subst e
    rw [List.getElem?_set_self (List.getElem?_eq_some_iff.mp h).1, h]
  · rw [List.getElem?_set_ne e]
/-- a list that may change gets new items -/
theorem set_ok {p : Addr} {us : List V} {ys : List VI.D} {st' : Sto} (ok : WOk K H w st) (hM : ∀ a, w.M st' a ↔ w.M st a) (hlg : st'.g.length = st.g.length) (hll : st'.l.length = st.l.length) (hp : w.M st p) (hnF : ¬ w.F p)
    (hg : ∀ (n : Nat) xs, st'.g[n]? = some xs → (w.mu[n]? = some p ∧ xs = ys) ∨ (w.mu[n]? ≠ some p ∧ st.g[n]? = some xs)) (hl : ∀ (n : Nat) xs, st'.l[n]? = some (some xs) → (w.la[n]? = some p ∧ xs = ys) ∨ (w.la[n]? ≠ some p ∧ st.l[n]? = some (some xs))) (hz : ∀ (n : Nat), st'.l[n]? = some none → st.l[n]? = some none)
    (hpz : ∀ (n : Nat), st.l[n]? = some none → w.la[n]? ≠ some p) (r : Reps K H (w.M st) us ys) : Le H w st (upd H p (.lst us)) w st' ∧ WOk K (upd H p (.lst us)) w st' := by
  have fr : Fr H w st (upd H p (.lst us)) w st' := fun a o h m => ⟨by rw [upd_ne fun e => m (by rw [e]; exact hp)]; exact h, fun q => m ((hM a).mp q)⟩
  refine ⟨⟨rfl, ⟨[], by simp⟩, ⟨[], by simp⟩, fr, fun a h => by rw [upd_ne fun e => hnF (by rw [← e]; exact h)]⟩, ⟨by rw [hlg]; exact ok.lg, by rw [hll]; exact ok.ll, fun i xs h => ?_, fun i xs h => ?_, fun i a h e => ?_, ok.nd, fun a h => ?_⟩⟩
  · rcases hg i xs h with ⟨h1, h2⟩ | ⟨h1, h2⟩
    · subst h2
      exact ⟨p, us, h1, upd_same, r.conv fr⟩
    · obtain ⟨a, vs, e, z, q⟩ := ok.g i xs h2
      exact ⟨a, vs, e, by rw [upd_ne fun q => h1 (by rw [← q]; exact e)]; exact z, q.conv fr⟩
  · rcases hl i xs h with ⟨h1, h2⟩ | ⟨h1, h2⟩
    · subst h2
      exact ⟨p, us, h1, upd_same, r.conv fr⟩
    · obtain ⟨a, vs, e, z, q⟩ := ok.l i xs h2
      exact ⟨a, vs, e, by rw [upd_ne fun q => h1 (by rw [← q]; exact e)]; exact z, q.conv fr⟩
  · have h' := hz i h
    obtain ⟨vs, z⟩ := ok.fz i a h' e
    exact ⟨vs, by rw [upd_ne fun q => hpz i h' (by rw [← q]; exact e)]; exact z⟩
  · obtain ⟨⟨o, z⟩, q⟩ := ok.fF a h
    exact ⟨⟨o, by rw [upd_ne fun e => hnF (by rw [← e]; exact h)]; exact z⟩, q⟩
theorem set_rep (ok : WOk K H w st) {v : V} {ev : EV} (r : EVRep K H w st v ev) {f : List VI.D → (List VI.D → Prop) → Prop} {k : Sto → Prop} (h : setS ev st f k) :
    ∃ (p : Addr) (vs : List V) (ds : List VI.D) (up : List VI.D → Sto), v = .ref p ∧ H p = some (.lst vs) ∧ Reps K H (w.M st) vs ds ∧ f ds (fun ys => k (up ys)) ∧ ∀ us ys, Reps K H (w.M st) us ys → Le H w st (upd H p (.lst us)) w (up ys) ∧ WOk K (upd H p (.lst us)) w (up ys) := by
  cases ev with
  | d x => exact h.elim
  | sc x => exact h.elim
  | lm n =>
    have h : (match st.l[n]? with
      | some (some xs) => f xs fun ys => k ⟨st.g, st.l.set n (some ys)⟩
      | _ => False) := h
    split at h
    · rename_i xs hx
      obtain ⟨a, rfl, ha⟩ := r
      obtain ⟨a', vs, e, z, q⟩ := ok.l n xs hx
      rw [ha] at e
      cases e
      have hn : n < st.l.length := (List.getElem?_eq_some_iff.mp hx).1
      have hmem : a ∈ w.la := List.mem_iff_getElem?.mpr ⟨n, ha⟩
      have hla : w.la.Nodup := ok.nd.sublist (List.sublist_append_right _ _)
      refine ⟨a, vs, xs, _, rfl, z, q, h, fun us ys rs => set_ok ok (fun b => ?_) rfl (by simp) (.inr (.inl ⟨n, xs, ha, hx⟩)) (fun q => (ok.fF a q).2.2 hmem) (fun i zs hz => .inr ⟨fun e => nodup_parts ok.nd (List.mem_iff_getElem?.mpr ⟨i, e⟩) hmem, hz⟩) (fun i zs hz => ?_) (fun i hz => ?_) (fun i hz e => ?_) rs⟩
      · constructor
        · rintro (g | ⟨i, zs, g, g2⟩ | g)
          · exact .inl g
          · have g2 : (st.l.set n (some ys))[i]? = some (some zs) := g2
            by_cases e : n = i
            · subst e
              exact .inr (.inl ⟨n, xs, g, hx⟩)
            · rw [List.getElem?_set_ne e] at g2
              exact .inr (.inl ⟨i, zs, g, g2⟩)
          · exact .inr (.inr g)
        · rintro (g | ⟨i, zs, g, g2⟩ | g)
          · exact .inl g
          · by_cases e : n = i
            · subst e
              exact .inr (.inl ⟨n, ys, g, List.getElem?_set_self hn⟩)
            · exact .inr (.inl ⟨i, zs, g, (List.getElem?_set_ne e).trans g2⟩)
          · exact .inr (.inr g)
      · have hz : (st.l.set n (some ys))[i]? = some (some zs) := hz
        by_cases e : n = i
        · subst e
          rw [List.getElem?_set_self hn] at hz
          cases hz
          exact .inl ⟨ha, rfl⟩
        · rw [List.getElem?_set_ne e] at hz
          exact .inr ⟨fun q => e (nodup_ix hla ha q), hz⟩
      · have hz : (st.l.set n (some ys))[i]? = some none := hz
        by_cases e : n = i
        · subst e
          rw [List.getElem?_set_self hn] at hz
          cases hz
        · rw [List.getElem?_set_ne e] at hz
          exact hz
      · have e2 : n = i := nodup_ix hla ha e
        subst e2
        rw [hx] at hz
        cases hz
    · exact h.elim
  | gm n =>
    have h : (match st.g[n]? with
      | some xs => f xs fun ys => k ⟨st.g.set n ys, st.l⟩
      | none => False) := h
    split at h
    · rename_i xs hx
      obtain ⟨a, rfl, ha⟩ := r
      obtain ⟨a', vs, e, z, q⟩ := ok.g n xs hx
      rw [ha] at e
      cases e
      have hn : n < st.g.length := (List.getElem?_eq_some_iff.mp hx).1
      have hmem : a ∈ w.mu := List.mem_iff_getElem?.mpr ⟨n, ha⟩
      have hmu : w.mu.Nodup := ok.nd.sublist (List.sublist_append_left _ _)
      refine ⟨a, vs, xs, _, rfl, z, q, h, fun us ys rs => set_ok ok (fun b => Iff.rfl) (by simp) rfl (.inl hmem) (fun q => (ok.fF a q).2.1 hmem) (fun i zs hz => ?_) (fun i zs hz => .inr ⟨fun e => nodup_parts ok.nd hmem (List.mem_iff_getElem?.mpr ⟨i, e⟩), hz⟩) (fun i hz => hz) (fun i hz e => nodup_parts ok.nd hmem (List.mem_iff_getElem?.mpr ⟨i, e⟩)) rs⟩
      have hz : (st.g.set n ys)[i]? = some zs := hz
      by_cases e : n = i
      · subst e
        rw [List.getElem?_set_self hn] at hz
        cases hz
        exact .inl ⟨ha, rfl⟩
      · rw [List.getElem?_set_ne e] at hz
        exact .inr ⟨fun q => e (nodup_ix hmu ha q), hz⟩
    · exact h.elim
end
end VI

/-! VI14: the soundness of statements. -/
namespace VI
open PySem PySem.Spec PyProof.Rows L2
/-- a list's item -/
def rGetL (K : PySem.W.Frag) : V → V → Hp → VK → Prop := fun x y H Q => ∃ p xs i v, x = .ref p ∧ y = .int i ∧ SqL K H p xs ∧ atI xs i = some v ∧ Q v H
theorem get_list {X : Cx} : PGet X (rGetL X.K) := by
  intro pins s σ H x y v u Q I rx ry h
  obtain ⟨p, xs, i, z, rfl, rfl, hq, he, q⟩ := h
  cases rx
  obtain ⟨t, rfl⟩ := ry
  obtain ⟨its, r, pl, hz⟩ := I.list hq
  obtain ⟨j, h1, h2, h3, h4, h5⟩ := atI_get he
  obtain ⟨w, ew, rw'⟩ := r.get h2
  have hl := r.length
  have hn := line63
  have fin : EP X pins σ Q w s := ⟨z, H, I, rw', q⟩
  by_cases h0 : 0 ≤ i
  · have hj : i.toNat = j := by
      rw [seqIndex_of h0 h5] at h1
      exact Option.some.inj h1
    exact wpAny_getItem_list pl.isList h0 (by omega) (by rw [hj]; simpa using ew) fin
  · have hj : (i + (its.toArray.size : Int)).toNat = j := by
      rw [seqIndex_neg (by omega) h4] at h1
      rw [List.size_toArray, ← hl]
      exact Option.some.inj h1
    exact wpAny_getItem_list_neg pl.isList (by omega) (by rw [List.size_toArray] <;> omega) (by omega) (by rw [hj]; simpa using ew) fin
structure SndS (tb : Tb) (b : IS) : Prop where
  s : ∀ c X, CxOk tb c X → ∀ x, (ckS b c).s x = true → PS X x (TSs X.K tb b)
  ss : ∀ c X, CxOk tb c X → ∀ x, (ckS b c).ss x = true → PSs X x (TSs X.K tb b)
theorem passes {tb : Tb} {c : Ctx} {X : Cx} (cx : CxOk tb c X) : PassesOwn (model X.prog X.w) X.A X.env X.xe := by
  rw [cx.xo.xe]
  exact PassesOwn.never
theorem sndOne {tb : Tb} {b : IS} {f : Ctx → Stmt → Bool} (h : ∀ c X, CxOk tb c X → ∀ x, f c x = true → PS X x (TSs X.K tb b)) (hc : ∀ c, ckS b c = one (f c)) : SndS tb b where
  s := fun c X cx x q => h c X cx x (by rw [hc] at q; exact q)
  ss := fun c X cx x q => by
    rw [hc] at q
    match x, q with
    | [y], q => exact pss_one (h c X cx y q)
    | [], q => cases q
    | _ :: _ :: _, q => cases q
section
variable {tb : Tb}
theorem sd_skip : SndS tb .skip where
  s := fun c X cx x h => by
    cases x with
    | Pass p => exact PS.mono ps_pass fun D σ H ⟨w, st, env, ok, er, h⟩ => h σ H w Le.refl ok er
    | Expr e p =>
      cases e with
      | Constant k j q =>
        cases k with
        | str z => exact PS.mono ps_doc fun D σ H ⟨w, st, env, ok, er, h⟩ => h σ H w Le.refl ok er
        | _ => cases h
      | _ => cases h
    | _ => cases h
  ss := fun c X cx x h => by
    have h : x.isEmpty = true := h
    cases x with
    | nil => exact PSs.mono pss_nil fun D σ H ⟨w, st, env, ok, er, h⟩ => h σ H w Le.refl ok er
    | cons _ _ => cases h
theorem sd_seq {a b : IS} (ha : SndS tb a) (hb : SndS tb b) : SndS tb (.seq a b) where
  s := fun c X cx x h => ff h
  ss := fun c X cx x h => by
    have h : (match isFr a with
      | some _ => (ckS b c).ss x
      | none => (match (generalizing := false) x with
        | x :: r => (ckS a c).s x && (ckS b c).ss r
        | [] => false)) = true := h
    cases hf : isFr a with
    | some i =>
      rw [hf] at h
      have ea : a = .freeze i := by
        cases a <;> first | (cases hf; rfl) | cases hf
      subst ea
      refine PSs.mono (hb.ss c X cx x h) fun D σ H ⟨w, st, env, ok, er, h⟩ => ?_
      have h : (match look env i with
        | some (.lm n) => (match st.l[n]? with
          | some (some xs) => semS tb b (put env i (.d (.list xs))) ⟨st.g, st.l.set n none⟩ (ksOf X.K D H w st)
          | _ => False)
        | _ => False) := h
      split at h
      · rename_i n hl
        split at h
        · rename_i xs hx
          obtain ⟨v, hv, a, rfl, ha⟩ := er.look hl
          obtain ⟨le, ok', r⟩ := freeze_ok (xs := []) ok hx ha
          have er' := (er.le le).put (ev := .d (.list xs)) r i
          rw [set_self hv] at er'
          exact on_le cx.mono le ok' er' h
        · exact h.elim
      · exact h.elim
    | none =>
      rw [hf] at h
      cases x with
      | nil => cases h
      | cons x r =>
        obtain ⟨h1, h2⟩ := band (show ((ckS a c).s x && (ckS b c).ss r) = true from h)
        refine PSs.mono (pss_cons (ha.s c X cx x h1) (hb.ss c X cx r h2)) fun D σ H ⟨w, st, env, ok, er, h⟩ => ?_
        exact ⟨w, st, env, ok, er, semS_mono cx.mono a _ _ { ksOf X.K D H w st with nx := fun env s => semS tb b env s (ksOf X.K D H w st) } (ksOf X.K { D with nx := TSs X.K tb b D } H w st) ⟨fun e s h σ' H' w' le ok' er' => on_le cx.mono le ok' er' h, fun _ _ z => z, fun _ _ z => z, fun _ _ z => z⟩ h⟩
theorem sd_aug (o : BOp) (i : Nat) (e : IE) : SndS tb (.aug o i e) := sndOne (f := fun c x => match x with
      | .AugAssign (.Name y _) op v _ => decide (op = opA o) && (decide (c.N[i]? = some y) && (locB c.sc y && ((c.fn y || isLoc c.sc y) && (ck e c).e v)))
      | _ => false) (fun c X cx x h => by
  split at h
  · obtain ⟨h1, hA⟩ := band h
    obtain ⟨h2, hB⟩ := band hA
    obtain ⟨h3, hC⟩ := band hB
    obtain ⟨h4, h5⟩ := band hC
    rw [of_decide_eq_true h1]
    have hf : X.fn _ = true ∨ X.env.scope.names.lookup _ = some .local := (Bool.or_eq_true_iff.mp h4).elim (fun z => .inl (cx.fn _ z)) fun z => .inr (isLoc_of cx.sc z)
    refine PS.mono (ps_aug (ti := rAug X.K o) cx.nd (by rw [cx.N]; exact of_decide_eq_true h2) (loc_of cx.sc h3) ((snd tb e).e c X cx _ h5) (op_aug o) hf) fun D σ H ⟨w, st, env, ok, er, h⟩ => ?_
    have h : (match look env i with
      | some x => (sem tb e).e env st fun y st' => augK o x y fun z => (ksOf X.K D H w st).nx (put env i z) st'
      | none => False) := h
    split at h
    · rename_i ev hl
      obtain ⟨v, hv, rv⟩ := er.look hl
      refine ⟨v, hv, bE cx.mono e ok er h fun ey st1 h1 y H1 w1 le1 ok1 r1 => ⟨w1, st1, ev, ey, ok1, rv.le le1, r1, augK_mono (fun z q u H2 le2 ok2 r2 => ?_) h1⟩⟩
      exact q _ H2 w1 (le1.trans le2) ok2 (((er.le le1).le le2).put r2 i)
    · exact h.elim
  · cases h) fun _ => rfl
theorem sd_ret (e : IE) : SndS tb (.ret e) := sndOne (f := fun c x => match x with
      | .Return (some v) _ => (ck e c).e v
      | _ => false) (fun c X cx x h => by
  split at h
  · exact PS.mono (ps_ret ((snd tb e).e c X cx _ h)) fun D σ H ⟨w, st, env, ok, er, h⟩ => ⟨w, st, env, ok, er, h⟩
  · cases h) fun _ => rfl
theorem sd_ret0 : SndS tb .ret0 := sndOne (f := fun _ x => match x with
      | .Return none _ => true
      | _ => false) (fun c X cx x h => by
  split at h
  · exact PS.mono ps_retN fun D σ H ⟨w, st, env, ok, er, h⟩ => h _ H w Le.refl ok Rep.non
  · cases h) fun _ => rfl
theorem sd_brk : SndS tb .brk := sndOne (f := fun _ x => match x with
      | .Break _ => true
      | _ => false) (fun c X cx x h => by
  split at h
  · exact PS.mono ps_break fun D σ H ⟨w, st, env, ok, er, h⟩ => h _ H w Le.refl ok er
  · cases h) fun _ => rfl
theorem sd_cont : SndS tb .cont := sndOne (f := fun _ x => match x with
      | .Continue _ => true
      | _ => false) (fun c X cx x h => by
  split at h
  · exact PS.mono ps_continue fun D σ H ⟨w, st, env, ok, er, h⟩ => h _ H w Le.refl ok er
  · cases h) fun _ => rfl
theorem sd_never : SndS tb .never where
  s := fun c X cx x h => PS.mono ps_never fun D σ H ⟨w, st, env, ok, er, h⟩ => h
  ss := fun c X cx x h => PSs.mono pss_never fun D σ H ⟨w, st, env, ok, er, h⟩ => h
theorem sd_freeze (i : Nat) : SndS tb (.freeze i) where
  s := fun c X cx x h => ff h
  ss := fun c X cx x h => ff h
theorem sd_exp (e : IE) : SndS tb (.exp e) := sndOne (f := fun c x => match x with
      | .Expr v _ => notComp v && (ck e c).e v
      | _ => false) (fun c X cx x h => by
  split at h
  · obtain ⟨h1, h2⟩ := band h
    exact PS.mono (ps_expr ((snd tb e).e c X cx _ h2) (swaps_of h1)) fun D σ H ⟨w, st, env, ok, er, h⟩ =>
      bE cx.mono e ok er h fun ev st1 h1 v H1 w1 le1 ok1 r1 => h1 σ H1 w1 le1 ok1 (er.le le1)
  · cases h) fun _ => rfl
theorem sd_ifs (t : IE) {a b : IS} (ha : SndS tb a) (hb : SndS tb b) : SndS tb (.ifs t a b) := sndOne (f := fun c x => match x with
      | .If q p r _ => (ck t c).t q && ((ckS a c).ss p && (ckS b c).ss r)
      | _ => false) (fun c X cx x h => by
  split at h
  · obtain ⟨h1, hA⟩ := band h
    obtain ⟨h2, h3⟩ := band hA
    refine PS.mono (ps_if ((snd tb t).t c X cx _ h1) (ha.ss c X cx _ h2) (hb.ss c X cx _ h3)) fun D σ H ⟨w, st, env, ok, er, h⟩ => ?_
    refine bT cx.mono t ok er h fun x st1 h1 H1 w1 le1 ok1 => ?_
    cases x with
    | true =>
      have h1 := brT' h1; simp only [if_true]
      exact on_le cx.mono le1 ok1 (er.le le1) h1
    | false =>
      have h1 := brF' h1; simp only [Bool.false_eq_true, if_false]
      exact on_le cx.mono le1 ok1 (er.le le1) h1
  · cases h) fun _ => rfl
theorem sd_whl (t : IE) {b : IS} (hb : SndS tb b) : SndS tb (.whl t b) := sndOne (f := fun c x => match x with
      | .While q p [] _ => (ck t c).t q && (ckS b c).ss p
      | _ => false) (fun c X cx x h => by
  split at h
  · obtain ⟨h1, h2⟩ := band h
    refine PS.mono (ps_while (passes cx) ((snd tb t).t c X cx _ h1) (hb.ss c X cx _ h2)) fun D σ H ⟨w, st, env, ok, er, h⟩ => ?_
    obtain ⟨I, ⟨m0, h0⟩, hs⟩ := (show whlK (sem tb t).t (semS tb b) env st (ksOf X.K D H w st) from h)
    refine ⟨fun m σ' H' => ∃ w' st' env', Le H w st H' w' st' ∧ WOk X.K H' w' st' ∧ EnvRep X.K H' w' st' σ' env' ∧ I m env' st', ⟨m0, w, st, env, Le.refl, ok, er, h0⟩, ?_⟩
    rintro m σ1 H1 ⟨w1, st1, env1, le1, ok1, er1, i1⟩
    refine bT cx.mono t ok1 er1 (hs m env1 st1 i1) fun x st2 h2 H2 w2 le2 ok2 => ?_
    cases x with
    | true =>
      have h2 := brT' h2; simp only [if_true]
      refine ⟨fun σ' H' => ∃ w' st' env', Le H w st H' w' st' ∧ WOk X.K H' w' st' ∧ EnvRep X.K H' w' st' σ' env' ∧ ∃ m', m' < m ∧ I m' env' st', fun σ' H' ⟨w', st', env', a, b, d, m', e, f⟩ => ⟨m', e, w', st', env', a, b, d, f⟩, ?_⟩
      refine ⟨w2, st2, env1, ok2, er1.le le2, semS_mono cx.mono b _ _ { nx := fun e s => ∃ m', m' < m ∧ I m' e s, rt := (ksOf X.K D H w st).rt, bk := (ksOf X.K D H w st).nx, ct := fun e s => ∃ m', m' < m ∧ I m' e s } _ ⟨fun e s h σ' H' w' le ok' er' => ⟨w', s, e, (le1.trans le2).trans le, ok', er', h⟩, fun ev s h v H' w' le => h v H' w' ((le1.trans le2).trans le), fun e s h σ' H' w' le => h σ' H' w' ((le1.trans le2).trans le), fun e s h σ' H' w' le ok' er' => ⟨w', s, e, (le1.trans le2).trans le, ok', er', h⟩⟩ h2⟩
    | false =>
      have h2 := brF' h2; simp only [Bool.false_eq_true, if_false]
      exact h2 σ1 H2 w2 (le1.trans le2) ok2 (er1.le le2)
  · cases h) fun _ => rfl
theorem sd_fr (t it : IE) {b : IS} (hb : SndS tb b) : SndS tb (.fr t it b) := sndOne (f := fun c x => match x with
      | .For tx ix p [] _ => notSet ix && ((ck it c).i tx ix && ((ck t c).g tx && (ckS b c).ss p))
      | _ => false) (fun c X cx x h => by
  split at h
  · obtain ⟨h1, hA⟩ := band h
    obtain ⟨h2, hB⟩ := band hA
    obtain ⟨h3, h4⟩ := band hB
    refine PS.mono (ps_for (passes cx) cx.xo.calm ((snd tb it).i c X cx _ _ h2) ((snd tb t).g c X cx _ h3) (hb.ss c X cx _ h4) (fold_of h1)) fun D σ H ⟨w, st, env, ok, er, h⟩ => ?_
    refine ⟨w, st, env, ok, er, (sem_mono cx.mono it).i _ _ _ _ (fun xs st1 h1 J H1 w1 le1 ok1 ys => ?_) h⟩
    refine ⟨fun i m σ' H' => ∃ w' st' env', i ≤ xs.length ∧ m = xs.length - i ∧ Le H1 w1 st1 H' w' st' ∧ WOk X.K H' w' st' ∧ EnvRep X.K H' w' st' σ' env' ∧ loopF (sem tb t).a (semS tb b) (xs.drop i) env' st' (ksOf X.K D H w st),
      ⟨xs.length, w1, st1, env, Nat.zero_le _, rfl, Le.refl, ok1, er.le le1, by rw [List.drop_zero]; exact h1⟩, ?_⟩
    rintro i m σ' H' ⟨w', st', env', hi, hm, lp, ok', er', hl⟩
    obtain ⟨y1, y2⟩ := ys H' w' st' lp.fr ok' i
    by_cases hx : i < xs.length
    · have hxi : xs[i]? = some xs[i] := List.getElem?_eq_getElem hx
      rw [List.drop_eq_getElem_cons hx] at hl
      obtain ⟨go, y2⟩ := y2 _ hxi
      refine .inr ⟨go, fun σ'' H'' => ∃ w'' st'' env'', Le H1 w1 st1 H'' w'' st'' ∧ WOk X.K H'' w'' st'' ∧ EnvRep X.K H'' w'' st'' σ'' env'' ∧ loopF (sem tb t).a (semS tb b) (xs.drop (i + 1)) env'' st'' (ksOf X.K D H w st),
        fun σ'' H'' ⟨w'', st'', env'', a1, a2, a3, a4⟩ => ⟨xs.length - (i + 1), by omega, w'', st'', env'', by omega, rfl, a1, a2, a3, a4⟩, fun v H2 yl => ?_⟩
      obtain ⟨le2, ok2, rv⟩ := y2 v H2 yl
      refine ⟨w', st', env', .d xs[i], ok2, er'.le le2, rv, (sem_mono cx.mono t).a _ _ _ _ (fun env2 hc σ2 er2 ch => ?_) hl⟩
      have l2 := lp.trans le2
      have l0 := le1.trans l2
      exact ⟨w', st', env2, ok2, er2, semS_mono cx.mono b _ _ { nx := fun e s => loopF (sem tb t).a (semS tb b) (xs.drop (i + 1)) e s (ksOf X.K D H w st), rt := (ksOf X.K D H w st).rt, bk := (ksOf X.K D H w st).nx, ct := fun e s => loopF (sem tb t).a (semS tb b) (xs.drop (i + 1)) e s (ksOf X.K D H w st) } _ ⟨fun e s h σ' H' w' le ok' er' => ⟨w', s, e, l2.trans le, ok', er', h⟩, fun ev s h v H' w' le => h v H' w' (l0.trans le), fun e s h σ' H' w' le => h σ' H' w' (l0.trans le), fun e s h σ' H' w' le ok' er' => ⟨w', s, e, l2.trans le, ok', er', h⟩⟩ hc⟩
    · have e : i = xs.length := by omega
      subst e
      rw [List.drop_length] at hl
      have hl : ∀ σ' H2 w2, Le H w st H2 w2 st' → WOk X.K H2 w2 st' → EnvRep X.K H2 w2 st' σ' env' → D.nx σ' H2 := hl
      exact .inl ⟨y1 (Nat.le_refl _), hl _ _ w' (le1.trans lp) ok' er'⟩
  · cases h) fun _ => rfl
/-! ### lists that change -/
theorem sole_of2 {t e : Expr} {l : Nat} {env : Env} (h : noSw t e = true) : swapsWithSole [t] e l env = pure false := by
  show swapsWith e (some t) l env = pure false
  by_cases z : notComp e = true
  · exact swaps_of z
  · cases t with
    | Tuple ts k p => cases e <;> rfl
    | _ => exact absurd h z
theorem sole_of {t e : Expr} {l : Nat} {env : Env} (h : notComp e = true) : swapsWithSole [t] e l env = pure false := swaps_of (t := some t) h
theorem assign_sub {o i : Expr} {pos : Pos} {env : Env} (h : notSlice i = true) : ∀ v, assign (.Subscript o i pos) env v = (do
      let ov ← holding [v] (eval o env)
      let iv ← holding [v, ov] (eval i env)
      standAt pos
      holding [v, ov, iv] (setItem ov iv v)
      release [v, ov, iv] []) := by
  intro v
  cases i <;> first | rfl | cases h
theorem store_sub {i : Expr} (h : notSlice i = true) : ∀ ov iv new, augStore i ov iv new = (do holding [new, ov, iv] (setItem ov iv new); release [new, ov, iv] []; pure .next) := by
  intro ov iv new
  cases i <;> first | rfl | cases h
theorem sd_setI (a i e : IE) : SndS tb (.setI a i e) := sndOne (f := fun c x => match x with
      | .Assign [.Subscript ox ix _] v _ => notComp v && (notSlice ix && ((ck a c).e ox && ((ck i c).e ix && (ck e c).e v)))
      | _ => false) (fun c X cx x h => by
  split at h
  · obtain ⟨h1, h0⟩ := band h
    obtain ⟨hs, hA⟩ := band h0
    obtain ⟨h2, hB⟩ := band hA
    obtain ⟨h3, h4⟩ := band hB
    refine PS.mono (ps_asg ((snd tb e).e c X cx _ h4) (pg_sub ((snd tb a).e c X cx _ h2) ((snd tb i).e c X cx _ h3) set_list (assign_sub hs)) (sole_of h1)) fun D σ H ⟨w, st, env, ok, er, h⟩ => ?_
    refine bE cx.mono e ok er h fun ev st1 h1 v H1 w1 le1 ok1 r1 => bE cx.mono a ok1 (er.le le1) h1 fun ex st2 h2 o H2 w2 le2 ok2 r2 => bE cx.mono i ok2 (er.le (le1.trans le2)) h2 fun ej st3 h3 k H3 w3 le3 ok3 r3 => ?_
    obtain ⟨d, rd, h3⟩ := dE_rep r1 h3
    obtain ⟨p, vs, ds, up, rfl, hp, rs, hf, hup⟩ := set_rep ok3 (r2.le le3) h3
    cases ej with
    | d dj =>
      cases dj with
      | int n =>
        cases (show Rep _ _ _ k _ from r3)
        have hf : (match L2.ixN ds.length n with
          | some m => (ksOf X.K D H w st).nx env (up (ds.set m d))
          | none => False) := hf
        split at hf
        · rename_i m hm
          have l3 := (le1.trans le2).trans le3
          obtain ⟨le4, ok4⟩ := hup (vs.set m v) (ds.set m d) (Reps.set (rd.le (le2.trans le3)) m rs)
          exact ⟨p, vs, n, m, rfl, rfl, hp, by rw [rs.length]; exact hm, hf σ _ w3 (l3.trans le4) ok4 ((er.le l3).le le4)⟩
        · exact hf.elim
      | _ => exact hf.elim
    | _ => exact hf.elim
  · cases h) fun _ => rfl
theorem sd_augS (o : BOp) (a i e : IE) : SndS tb (.augS o a i e) := sndOne (f := fun c x => match x with
      | .AugAssign (.Subscript ox ix _) op v _ => decide (op = opA o) && (notSlice ix && ((ck a c).e ox && ((ck i c).e ix && (ck e c).e v)))
      | _ => false) (fun c X cx x h => by
  split at h
  · obtain ⟨h1, hA⟩ := band h
    obtain ⟨h2, hB⟩ := band hA
    obtain ⟨h3, hC⟩ := band hB
    obtain ⟨h4, h5⟩ := band hC
    rw [of_decide_eq_true h1]
    refine PS.mono (ps_augS (tip := rAug X.K o) ((snd tb a).e c X cx _ h3) ((snd tb i).e c X cx _ h4) get_list ((snd tb e).e c X cx _ h5) (op_aug o) set_list (store_sub h2)) fun D σ H ⟨w, st, env, ok, er, h⟩ => ?_
    refine bE cx.mono a ok er h fun ex st1 h1 ov H1 w1 le1 ok1 r1 => bE cx.mono i ok1 (er.le le1) h1 fun ej st2 h2 k H2 w2 le2 ok2 r2 => ?_
    obtain ⟨b, ds, p, vs, rfl, g1, g2, g3, hb, g4⟩ := seq_rep ok2 (r1.le le2) h2
    cases ej with
    | d dj =>
      cases dj with
      | int n =>
        cases (show Rep _ _ _ k _ from r2)
        have g4 : (match L2.ixN ds.length n with
          | some m => (match ds[m]? with
            | some old => (sem tb e).e env st2 fun y st3 => augK o (.d old) y fun z => dE z fun wz => setS ex st3 (fun xs k => ixK (.d (.int n)) xs.length fun m => k (xs.set m wz)) fun s4 => (ksOf X.K D H w st).nx env s4
            | none => False)
          | none => False) := g4
        split at g4
        · rename_i m hm
          split at g4
          · rename_i old hold
            obtain ⟨u, hu, ru⟩ := g3.get hold
            have ha : atI vs n = some u := by
              unfold atI
              rw [g3.length, hm]
              exact hu
            refine ⟨p, vs, n, u, rfl, rfl, g1 hb, ha, bE cx.mono e ok2 (er.le (le1.trans le2)) g4 fun ey st3 h3 y H3 w3 le3 ok3 r3 => ?_⟩
            refine ⟨w3, st3, .d old, ey, ok3, ru.le le3, r3, augK_mono (fun z q z' H4 le4 ok4 r4 => ?_) h3⟩
            obtain ⟨d, rd, q⟩ := dE_rep r4 q
            have l4 := ((le1.trans le2).trans le3).trans le4
            obtain ⟨p', vs', ds', up, e', hp, rs, hf, hup⟩ := set_rep ok4 (((r1.le le2).le le3).le le4) q
            cases e'
            have hf : (match L2.ixN ds'.length n with
              | some m => (ksOf X.K D H w st).nx env (up (ds'.set m d))
              | none => False) := hf
            split at hf
            · rename_i m' hm'
              obtain ⟨le5, ok5⟩ := hup (vs'.set m' z') (ds'.set m' d) (Reps.set rd m' rs)
              exact ⟨p, vs', n, m', rfl, rfl, hp, by rw [rs.length]; exact hm', hf σ _ w3 (l4.trans le5) ok5 ((er.le l4).le le5)⟩
            · exact hf.elim
          · exact g4.elim
        · exact g4.elim
      | _ => exact g4.elim
    | _ => exact g4.elim
  · cases h) fun _ => rfl
end
end VI

/-! VI15: the soundness of stores, of methods of lists; of every statement. -/
namespace VI
open PySem PySem.Spec PyProof.Rows L2
section
variable {tb : Tb}
/-- a list that may change is a list -/
theorem mut_ty {K : PySem.W.Frag} {H : Hp} {w : Wd} {st : Sto} {v : V} {ev : EV} (ok : WOk K H w st) (r : EVRep K H w st v ev) (h : mutE ev) : tyV K "list" v H := by
  cases ev with
  | d x => exact h.elim
  | sc x => exact h.elim
  | lm n =>
    obtain ⟨a, rfl, ha⟩ := r
    have hl : n < st.l.length := by rw [← ok.ll]; exact (List.getElem?_eq_some_iff.mp ha).1
    have hs : st.l[n]? = some st.l[n] := List.getElem?_eq_getElem hl
    cases q : st.l[n] with
    | none =>
      rw [q] at hs
      obtain ⟨vs, z⟩ := ok.fz n a hs ha
      exact .inl ⟨rfl, vs, SqL.of z⟩
    | some xs =>
      rw [q] at hs
      obtain ⟨a', vs, e, z, _⟩ := ok.l n xs hs
      rw [ha] at e
      cases e
      exact .inl ⟨rfl, vs, SqL.of z⟩
  | gm n =>
    obtain ⟨a, rfl, ha⟩ := r
    have hl : n < st.g.length := by rw [← ok.lg]; exact (List.getElem?_eq_some_iff.mp ha).1
    obtain ⟨a', vs, e, z, _⟩ := ok.g n _ (List.getElem?_eq_getElem hl)
    rw [ha] at e
    cases e
    exact .inl ⟨rfl, vs, SqL.of z⟩
theorem meth_form {name : Str} {a e : IE} {c : Ctx} {x : Stmt} (h : meth name a e c x = true) : ∃ o ap y cp p, x = .Expr (.Call (.Attribute o name ap) [y] [] cp) p ∧ notCall o = true ∧ (ap.endLine == cp.line) = true ∧ notStar y = true ∧ (ck a c).e o = true ∧ (ck e c).e y = true := by
  unfold meth at h
  split at h
  · obtain ⟨h1, hA⟩ := band h
    obtain ⟨h2, hB⟩ := band hA
    obtain ⟨h3, hC⟩ := band hB
    obtain ⟨h4, hD⟩ := band hC
    obtain ⟨h5, h6⟩ := band hD
    rw [of_decide_eq_true h1]
    exact ⟨_, _, _, _, _, rfl, h2, h3, h4, h5, h6⟩
  · cases h
theorem lineM {n : Nat} (h : n < 1000000) : n < sizeLine := by rw [sizeLine_eq]; omega
theorem lineN {n : Nat} (h : n ≤ 1000000) : n ≤ sizeLine := by rw [sizeLine_eq]; omega
theorem sd_app (a e : IE) : SndS tb (.app a e) := sndOne (f := fun c => meth "append" a e c) (fun c X cx x h => by
  obtain ⟨o, ap, y, cp, p, rfl, h2, h3, h4, h5, h6⟩ := meth_form h
  refine PS.mono (ps_expr (pe_bm PySem.F.plainAttrs_list PySem.F.slot_list_append PySem.F.type_list_append mt_append ((snd tb a).e c X cx _ h5) (pa_cons ((snd tb e).e c X cx _ h6) pa_nil (star_of h4)) (base_of h2) (few_of h4) h3 (star_of h4) rfl) (swaps_of rfl)) fun D σ H ⟨w, st, env, ok, er, h⟩ => ?_
  refine bE cx.mono a ok er h fun ex st1 h1 ov H1 w1 le1 ok1 r1 => ?_
  refine ⟨mut_ty ok1 r1 h1.1, bE cx.mono e ok1 (er.le le1) h1.2 fun ey st2 h2 v H2 w2 le2 ok2 r2 => ?_⟩
  obtain ⟨d, rd, h2⟩ := dE_rep r2 h2
  obtain ⟨q, vs, ds, up, rfl, hp, rs, hf, hup⟩ := set_rep ok2 (r1.le le2) h2
  obtain ⟨le3, ok3⟩ := hup (vs ++ [v]) (ds ++ [d]) (rs.append (.cons rd .nil))
  have l2 := le1.trans le2
  exact ⟨q, vs, v, rfl, rfl, hp, by rw [rs.length]; exact lineM hf.1, hf.2 σ _ w2 (l2.trans le3) ok3 ((er.le l2).le le3)⟩) fun _ => rfl
theorem sd_ext (a e : IE) : SndS tb (.ext a e) := sndOne (f := fun c => meth "extend" a e c) (fun c X cx x h => by
  obtain ⟨o, ap, y, cp, p, rfl, h2, h3, h4, h5, h6⟩ := meth_form h
  refine PS.mono (ps_expr (pe_bm PySem.F.plainAttrs_list PySem.F.slot_list_extend PySem.F.type_list_extend mt_extend ((snd tb a).e c X cx _ h5) (pa_cons ((snd tb e).e c X cx _ h6) pa_nil (star_of h4)) (base_of h2) (few_of h4) h3 (star_of h4) rfl) (swaps_of rfl)) fun D σ H ⟨w, st, env, ok, er, h⟩ => ?_
  refine bE cx.mono a ok er h fun ex st1 h1 ov H1 w1 le1 ok1 r1 => ?_
  refine ⟨mut_ty ok1 r1 h1.1, bE cx.mono e ok1 (er.le le1) h1.2 fun ey st2 h2 v H2 w2 le2 ok2 r2 => ?_⟩
  cases ey with
  | d dy =>
    cases dy with
    | list ys =>
      cases (show Rep _ _ _ v _ from r2) with
      | lst f m rs2 =>
        obtain ⟨q, vs, ds, up, rfl, hp, rs, hf, hup⟩ := set_rep ok2 (r1.le le2) h2
        obtain ⟨le3, ok3⟩ := hup _ (ds ++ ys) (rs.append rs2)
        have l2 := le1.trans le2
        exact ⟨q, _, vs, _, rfl, rfl, hp, f, by rw [rs.length, rs2.length]; exact lineN hf.1, hf.2 σ _ w2 (l2.trans le3) ok3 ((er.le l2).le le3)⟩
    | _ => exact h2.elim
  | _ => exact h2.elim) fun _ => rfl
theorem meth2_form {name : Str} {a i e : IE} {c : Ctx} {x : Stmt} (h : meth2 name a i e c x = true) : ∃ o ap j y cp p, x = .Expr (.Call (.Attribute o name ap) [j, y] [] cp) p ∧ notCall o = true ∧ (ap.endLine == cp.line) = true ∧ notStar j = true ∧ notStar y = true ∧ (ck a c).e o = true ∧ (ck i c).e j = true ∧ (ck e c).e y = true := by
  unfold meth2 at h
  split at h
  · obtain ⟨h1, hA⟩ := band h
    obtain ⟨h2, hB⟩ := band hA
    obtain ⟨h3, hC⟩ := band hB
    obtain ⟨h4, hD⟩ := band hC
    obtain ⟨h5, hE⟩ := band hD
    obtain ⟨h6, hF⟩ := band hE
    obtain ⟨h7, h8⟩ := band hF
    rw [of_decide_eq_true h1]
    exact ⟨_, _, _, _, _, _, rfl, h2, h3, h4, h5, h6, h7, h8⟩
  · cases h
theorem sd_ins (a i e : IE) : SndS tb (.ins a i e) := sndOne (f := fun c => meth2 "insert" a i e c) (fun c X cx x h => by
  obtain ⟨o, ap, j, y, cp, p, rfl, h2, h3, h4, h4', h5, h6, h7⟩ := meth2_form h
  refine PS.mono (ps_expr (pe_bm PySem.F.plainAttrs_list PySem.F.slot_list_insert PySem.F.type_list_insert mt_insert ((snd tb a).e c X cx _ h5) (pa_cons ((snd tb i).e c X cx _ h6) (pa_cons ((snd tb e).e c X cx _ h7) pa_nil (star_of h4')) (star_of h4)) (base_of h2) (few2_of h4 h4') h3 (star_of h4) (by rw [star_of h4']; rfl)) (swaps_of rfl)) fun D σ H ⟨w, st, env, ok, er, h⟩ => ?_
  refine bE cx.mono a ok er h fun ex st1 h1 ov H1 w1 le1 ok1 r1 => ?_
  refine ⟨mut_ty ok1 r1 h1.1, bE cx.mono i ok1 (er.le le1) h1.2 fun ej st2 h2 jv H2 w2 le2 ok2 r2 => bE cx.mono e ok2 (er.le (le1.trans le2)) h2 fun ey st3 h3 v H3 w3 le3 ok3 r3 => ?_⟩
  obtain ⟨d, rd, h3⟩ := dE_rep r3 h3
  cases ej with
  | d dj =>
    cases dj with
    | int n =>
      obtain ⟨⟨hn0, hn1⟩, h3⟩ := h3
      cases (show Rep _ _ _ jv _ from r2)
      obtain ⟨q, vs, ds, up, rfl, hp, rs, hf, hup⟩ := set_rep ok3 (r1.le (le2.trans le3)) h3
      obtain ⟨le4, ok4⟩ := hup (vs.take n.toNat ++ [v] ++ vs.drop n.toNat) (ds.take n.toNat ++ [d] ++ ds.drop n.toNat) (((rs.take _).append (.cons rd .nil)).append (rs.drop _))
      have l3 := (le1.trans le2).trans le3
      exact ⟨q, vs, n, v, rfl, rfl, hp, by rw [rs.length]; exact lineM hf.1, hn0, by omega, hf.2 σ _ w3 (l3.trans le4) ok4 ((er.le l3).le le4)⟩
    | _ => exact h3.elim
  | _ => exact h3.elim) fun _ => rfl
/-! ### stores -/
theorem asg1_of {t : Expr} {env : Env} (h : notStar t = true) : (assignEach [t] env).map (·.2) = [assign t env] := by
  rw [asg_of h]
  rfl
theorem fin_asg {t e : IE} {X : Cx} (ht : tb.Mono) (D : Ends) (σ : L2.St) (H : Hp) (h : TSs X.K tb (.asg t e) D σ H) : tAsg (TEs X.K tb e) (TGs1 X.K tb t) D σ H := by
  obtain ⟨w, st, env, ok, er, h⟩ := h
  exact bE ht e ok er h fun ev st1 h1 v H1 w1 le1 ok1 r1 => ⟨w1, st1, env, ev, ok1, er.le le1, r1, (sem_mono ht t).a _ _ _ _ (fun env' q σ' er' _ => q σ' H1 w1 le1 ok1 er') h1⟩
theorem sd_asgA {t e : IE} {c : Ctx} {X : Cx} (cx : CxOk tb c X) {tx vx : Expr} {p : Pos} (h : cA t e c tx vx = true) : PS X (.Assign [tx] vx p) (TSs X.K tb (.asg t e)) := by
  obtain ⟨h1, hA⟩ := band h
  obtain ⟨h2, hB⟩ := band hA
  obtain ⟨h3, hC⟩ := band hB
  obtain ⟨h4, hD⟩ := band hC
  obtain ⟨h5, h6⟩ := band hD
  have hs : swB X.env.scope tx vx = some none := by
    rw [cx.sc]
    split at h3
    · assumption
    · cases h3
  exact PS.mono (ps_asg ((snd tb e).e c X cx _ h6) ((snd tb t).g c X cx _ h5) (sole_of2 h2) (stores_of (by rw [cx.sc]; exact h4) hs) (asg1_of h1)) fun D σ H q => fin_asg cx.mono D σ H q
theorem sd_asgC {t e : IE} {c : Ctx} {X : Cx} (cx : CxOk tb c X) {tx vx : Expr} {p : Pos} (h : cC t e c tx vx = true) : PS X (.Assign [tx] vx p) (TSs X.K tb (.asg t e)) := by
  unfold cC at h
  split at h
  · rename_i i kd own tg it tt el y py elt tgx itx ifs a scope pos
    obtain ⟨h1, hA⟩ := band h
    obtain ⟨h2, hB⟩ := band hA
    obtain ⟨h3, hC⟩ := band hB
    obtain ⟨h4, hD⟩ := band hC
    obtain ⟨h5, h6⟩ := band hD
    obtain ⟨a0, ok, ho, pi, fs, sl, pg, pt, pe⟩ := lc_parts (snd tb tg) (snd tb it) (snd tb tt) (snd tb el) cx h6
    subst a0
    have hk : X.env.scope.kind = .function := by
      rw [cx.sc]
      unfold funB at h5
      split at h5
      · assumption
      · cases h5
    have hl := isLoc_of cx.sc h2
    have q := ps_setLc (i := i) (spos := p) cx.xo.calm cx.nd (by rw [cx.N]; exact of_decide_eq_true h1) hl (sw_true hk hl h3 (by simpa using h4)) pi ok pg pt pe fs
    rw [ho] at q
    refine PS.mono q fun D σ H q => ?_
    obtain ⟨w, st, env, ok, er, h⟩ := q
    refine cmpr_go (kd := kd) cx.mono sl ⟨w, st, env, ok, er, (sem_mono cx.mono (.cmpr kd own tg it tt el)).e _ _ _ _ (fun ev st1 h1 v H1 w1 le1 ok1 r1 => ?_) h⟩
    exact h1 _ H1 w1 le1 ok1 ((er.le le1).put r1 i)
  · cases h
theorem sd_asgB2 {t e : IE} {c : Ctx} {X : Cx} (cx : CxOk tb c X) {tx vx : Expr} {p : Pos} (h : cB2 t e c tx vx = true) : PS X (.Assign [tx] vx p) (TSs X.K tb (.asg t e)) := by
  unfold cB2 at h
  split at h
  · rename_i i j r x px y py kt pt a b k2 pt2
    obtain ⟨h1, hA⟩ := band h
    obtain ⟨h2, hB⟩ := band hA
    obtain ⟨h3, hC⟩ := band hB
    obtain ⟨h4, hD⟩ := band hC
    obtain ⟨h5, hE⟩ := band hD
    obtain ⟨h6, hF⟩ := band hE
    obtain ⟨h7, h8⟩ := band hF
    refine PS.mono (ps_par cx.xo.calm cx.nd (by rw [cx.N]; exact of_decide_eq_true h1) (by rw [cx.N]; exact of_decide_eq_true h2) (of_decide_eq_true h3) (isLoc_of cx.sc h4) (isLoc_of cx.sc h5) ((snd tb r).l c X cx _ h6).1 (stores_of (by rw [cx.sc]; exact h8) (by rw [cx.sc]; exact of_decide_eq_true h7))) fun D σ H ⟨w, st, env, ok, er, h⟩ => ?_
    refine bL cx.mono r ok er h fun evs st1 q vs H1 w1 le1 ok1 r1 hl => ?_
    obtain ⟨ds, rs, q⟩ := allD_rep r1 q
    cases rs with
    | nil => cases hl
    | cons ra rs =>
      cases rs with
      | nil => cases hl
      | cons rb rs =>
        cases rs with
        | nil =>
          obtain ⟨-, q⟩ := (show [] = [] ∧ (ksOf X.K D H w st).nx (put (put env i _) j _) st1 from q)
          exact ⟨_, _, rfl, q _ H1 w1 le1 ok1 (((er.le le1).put (ev := .d _) ra i).put (ev := .d _) rb j)⟩
        | cons _ _ => cases hl
  · cases h
theorem sd_asgB3 {t e : IE} {c : Ctx} {X : Cx} (cx : CxOk tb c X) {tx vx : Expr} {p : Pos} (h : cB3 t e c tx vx = true) : PS X (.Assign [tx] vx p) (TSs X.K tb (.asg t e)) := by
  unfold cB3 at h
  split at h
  · rename_i i j l r x px y py z pz kt pt a b d k2 pt2
    obtain ⟨h1, hA⟩ := band h
    obtain ⟨h2, hB⟩ := band hA
    obtain ⟨h3, hC⟩ := band hB
    obtain ⟨h4, hD⟩ := band hC
    obtain ⟨h5, hE⟩ := band hD
    obtain ⟨h6, hF⟩ := band hE
    obtain ⟨h7, hG⟩ := band hF
    obtain ⟨h8, hH⟩ := band hG
    obtain ⟨h9, hI⟩ := band hH
    obtain ⟨hj, hJ⟩ := band hI
    obtain ⟨hk, hm⟩ := band hJ
    refine PS.mono (ps_par3 cx.xo.calm cx.nd (by rw [cx.N]; exact of_decide_eq_true h1) (by rw [cx.N]; exact of_decide_eq_true h2) (by rw [cx.N]; exact of_decide_eq_true h3) (of_decide_eq_true h4) (of_decide_eq_true h5) (of_decide_eq_true h6) (isLoc_of cx.sc h7) (isLoc_of cx.sc h8) (isLoc_of cx.sc h9) ((snd tb r).l c X cx _ hj).1 (stores_of (by rw [cx.sc]; exact hm) (by rw [cx.sc]; exact of_decide_eq_true hk))) fun D σ H ⟨w, st, env, ok, er, h⟩ => ?_
    refine bL cx.mono r ok er h fun evs st1 q vs H1 w1 le1 ok1 r1 hl => ?_
    obtain ⟨ds, rs, q⟩ := allD_rep r1 q
    cases rs with
    | nil => cases hl
    | cons ra rs =>
      cases rs with
      | nil => cases hl
      | cons rb rs =>
        cases rs with
        | nil => cases hl
        | cons rc rs =>
          cases rs with
          | nil =>
            obtain ⟨-, q⟩ := (show [] = [] ∧ (ksOf X.K D H w st).nx (put (put (put env i _) j _) l _) st1 from q)
            exact ⟨_, _, _, rfl, q _ H1 w1 le1 ok1 ((((er.le le1).put (ev := .d _) ra i).put (ev := .d _) rb j).put (ev := .d _) rc l)⟩
          | cons _ _ => cases hl
  · cases h
theorem sd_asg (t e : IE) : SndS tb (.asg t e) := sndOne (f := fun c x => match x with
      | .Assign [tx] vx _ => cA t e c tx vx || (cC t e c tx vx || (cB2 t e c tx vx || cB3 t e c tx vx))
      | _ => false) (fun c X cx x h => by
  split at h
  · rcases Bool.or_eq_true_iff.mp h with h | h
    · exact sd_asgA cx h
    · rcases Bool.or_eq_true_iff.mp h with h | h
      · exact sd_asgC cx h
      · rcases Bool.or_eq_true_iff.mp h with h | h
        · exact sd_asgB2 cx h
        · exact sd_asgB3 cx h
  · cases h) fun _ => rfl
theorem par2_of {i j : Nat} {r : IE} {c : Ctx} {X : Cx} (cx : CxOk tb c X) {tx vx : Expr} {p : Pos} (h : cB2 (.tup (.cons (.var i) (.cons (.var j) .nil))) (.tup r) c tx vx = true) : PS X (.Assign [tx] vx p) (tPar i j (TLs X.K tb r 2)) := by
  unfold cB2 at h
  split at h
  · rename_i i' j' r' x px y py kt pt a b k2 pt2 e1 e2
    cases e1
    cases e2
    obtain ⟨h1, hA⟩ := band h
    obtain ⟨h2, hB⟩ := band hA
    obtain ⟨h3, hC⟩ := band hB
    obtain ⟨h4, hD⟩ := band hC
    obtain ⟨h5, hE⟩ := band hD
    obtain ⟨h6, hF⟩ := band hE
    obtain ⟨h7, h8⟩ := band hF
    exact ps_par cx.xo.calm cx.nd (by rw [cx.N]; exact of_decide_eq_true h1) (by rw [cx.N]; exact of_decide_eq_true h2) (of_decide_eq_true h3) (isLoc_of cx.sc h4) (isLoc_of cx.sc h5) ((snd tb r).l c X cx _ h6).1 (stores_of (by rw [cx.sc]; exact h8) (by rw [cx.sc]; exact of_decide_eq_true h7))
  · cases h
theorem par3_of {i j l : Nat} {r : IE} {c : Ctx} {X : Cx} (cx : CxOk tb c X) {tx vx : Expr} {p : Pos} (h : cB3 (.tup (.cons (.var i) (.cons (.var j) (.cons (.var l) .nil)))) (.tup r) c tx vx = true) : PS X (.Assign [tx] vx p) (tPar3 i j l (TLs X.K tb r 3)) := by
  unfold cB3 at h
  split at h
  · rename_i i' j' l' r' x px y py z pz kt pt a b d k2 pt2 e1 e2
    cases e1
    cases e2
    obtain ⟨h1, hA⟩ := band h
    obtain ⟨h2, hB⟩ := band hA
    obtain ⟨h3, hC⟩ := band hB
    obtain ⟨h4, hD⟩ := band hC
    obtain ⟨h5, hE⟩ := band hD
    obtain ⟨h6, hF⟩ := band hE
    obtain ⟨h7, hG⟩ := band hF
    obtain ⟨h8, hH⟩ := band hG
    obtain ⟨h9, hI⟩ := band hH
    obtain ⟨hj, hJ⟩ := band hI
    obtain ⟨hk, hm⟩ := band hJ
    exact ps_par3 cx.xo.calm cx.nd (by rw [cx.N]; exact of_decide_eq_true h1) (by rw [cx.N]; exact of_decide_eq_true h2) (by rw [cx.N]; exact of_decide_eq_true h3) (of_decide_eq_true h4) (of_decide_eq_true h5) (of_decide_eq_true h6) (isLoc_of cx.sc h7) (isLoc_of cx.sc h8) (isLoc_of cx.sc h9) ((snd tb r).l c X cx _ hj).1 (stores_of (by rw [cx.sc]; exact hm) (by rw [cx.sc]; exact of_decide_eq_true hk))
  · cases h
theorem par4_of {is : List Nat} {r : IE} {c : Ctx} {X : Cx} (cx : CxOk tb c X) {tx vx : Expr} {p : Pos} (h : cB4 is r c tx vx = true) : PS X (.Assign [tx] vx p) (TSs X.K tb (.par is r)) := by
  unfold cB4 at h
  split at h
  · rename_i i j l m x px y py z pz u pu kt pt es k2 pt2
    obtain ⟨h1, h⟩ := band h
    obtain ⟨h2, h⟩ := band h
    obtain ⟨h3, h⟩ := band h
    obtain ⟨h4, h⟩ := band h
    obtain ⟨g1, h⟩ := band h
    obtain ⟨g2, h⟩ := band h
    obtain ⟨g3, h⟩ := band h
    obtain ⟨g4, h⟩ := band h
    obtain ⟨hl, h⟩ := band h
    obtain ⟨hn, h⟩ := band h
    obtain ⟨hs, hf⟩ := band h
    have hn := of_decide_eq_true hn
    have nm : ∀ {i : Nat} {x : Str} {px : Pos}, decide (c.N[i]? = some x) = true → lcB c x = true → PG X (.Name x px) (gName i) := fun a b => by
      obtain ⟨b1, b2⟩ := band (show (locB c.sc _ && (c.fn _ || isLoc c.sc _)) = true from b)
      exact pg_name cx.nd (by rw [cx.N]; exact of_decide_eq_true a) (loc_of cx.sc b1) ((Bool.or_eq_true_iff.mp b2).elim (fun z => .inl (cx.fn _ z)) fun z => .inr (isLoc_of cx.sc z))
    have pa := ((snd tb r).l c X cx _ hl).1
    have pt' : PG X (.Tuple [.Name x px, .Name y py, .Name z pz, .Name u pu] kt pt) (gTup X.K 4 (gCons (gName i) (gCons (gName j) (gCons (gName l) (gCons (gName m) gNil))))) :=
      pg_tup cx.xo.calm (pgs_cons (nm h1 g1) (pgs_cons (nm h2 g2) (pgs_cons (nm h3 g3) (pgs_cons (nm h4 g4) pgs_nil))))
    refine PS.mono (ps_asg (pe_tup pa) pt' (sole_of2 rfl) (stores_of (by rw [cx.sc]; exact hf) (by rw [cx.sc]; exact of_decide_eq_true hs)) (asg1_of rfl)) fun D σ H ⟨w, st, env, ok, er, h⟩ => ?_
    refine bL cx.mono r ok er h fun evs st1 q vs H1 w1 le1 ok1 r1 hl => ?_
    rw [hn] at hl
    refine ⟨line1k (by omega), fun p n => ?_⟩
    have lef := Le.fresh (o := .tup vs) n ok1
    have okf := ok1.fresh (o := .tup vs) n
    cases r1 with
    | nil => cases hl
    | cons ra rs =>
      cases rs with
      | nil => cases hl
      | cons rb rs =>
        cases rs with
        | nil => cases hl
        | cons rc rs =>
          cases rs with
          | nil => cases hl
          | cons rd rs =>
            cases rs with
            | nil => exact ⟨p, _, rfl, .inl (.inl upd_same), rfl, _, _, rfl, _, _, rfl, _, _, rfl, _, _, rfl, rfl, q _ _ w1 (le1.trans lef) okf (((((er.le (le1.trans lef)).put (ra.le lef) _).put (rb.le lef) _).put (rc.le lef) _).put (rd.le lef) _)⟩
            | cons _ _ => cases hl
  · cases h
theorem sd_par (is : List Nat) (r : IE) : SndS tb (.par is r) := sndOne (f := fun c x => match x with
      | .Assign [tx] vx _ => (match is with
        | [i, j] => cB2 (.tup (.cons (.var i) (.cons (.var j) .nil))) (.tup r) c tx vx
        | [i, j, l] => cB3 (.tup (.cons (.var i) (.cons (.var j) (.cons (.var l) .nil)))) (.tup r) c tx vx
        | [i, j, l, m] => cB4 [i, j, l, m] r c tx vx
        | _ => false)
      | _ => false) (fun c X cx x h => by
  split at h
  · split at h
    · refine PS.mono (par2_of cx h) fun D σ H ⟨w, st, env, ok, er, h⟩ => ?_
      refine bL cx.mono r ok er h fun evs st1 q vs H1 w1 le1 ok1 r1 hl => ?_
      cases r1 with
      | nil => cases hl
      | cons ra rs =>
        cases rs with
        | nil => cases hl
        | cons rb rs =>
          cases rs with
          | nil => exact ⟨_, _, rfl, q _ H1 w1 le1 ok1 (((er.le le1).put ra _).put rb _)⟩
          | cons _ _ => cases hl
    · refine PS.mono (par3_of cx h) fun D σ H ⟨w, st, env, ok, er, h⟩ => ?_
      refine bL cx.mono r ok er h fun evs st1 q vs H1 w1 le1 ok1 r1 hl => ?_
      cases r1 with
      | nil => cases hl
      | cons ra rs =>
        cases rs with
        | nil => cases hl
        | cons rb rs =>
          cases rs with
          | nil => cases hl
          | cons rc rs =>
            cases rs with
            | nil => exact ⟨_, _, _, rfl, q _ H1 w1 le1 ok1 ((((er.le le1).put ra _).put rb _).put rc _)⟩
            | cons _ _ => cases hl
    · exact par4_of cx h
    · cases h
  · cases h) fun _ => rfl
theorem sd (tb : Tb) : ∀ b : IS, SndS tb b
  | .skip => sd_skip
  | .seq a b => sd_seq (sd tb a) (sd tb b)
  | .asg t e => sd_asg t e
  | .aug o i e => sd_aug o i e
  | .augS o a i e => sd_augS o a i e
  | .setI a i e => sd_setI a i e
  | .app a e => sd_app a e
  | .ext a e => sd_ext a e
  | .ins a i e => sd_ins a i e
  | .exp e => sd_exp e
  | .ifs t a b => sd_ifs t (sd tb a) (sd tb b)
  | .whl t b => sd_whl t (sd tb b)
  | .fr t it b => sd_fr t it (sd tb b)
  | .ret e => sd_ret e
  | .ret0 => sd_ret0
  | .brk => sd_brk
  | .cont => sd_cont
  | .never => sd_never
  | .freeze i => sd_freeze i
  | .par is r => sd_par is r
end
end VI

/-! VI16: a def by its piece; the law's end. -/
namespace VI
open PySem PySem.Spec PyProof.Rows L2
theorem guards_deeper {A : Around} {env : Env} (h : A.guards = some []) : (A.deeper env).guards = some [] := by
  first | exact h | (simpa [Around.deeper] using h)
theorem CxOk.wishD {tb : Tb} {c : Ctx} {X : Cx} (h : CxOk tb c X) : CxOk tb c X := h
/-- a frame is left -/
theorem leave {K : PySem.W.Frag} {H H' : Hp} {w w' : Wd} {g : List (List D)} {s : Sto} (hla : w.la = []) (le : Le H w ⟨g, []⟩ H' w' s) (ok : WOk K H' w' s) :
    Le H w ⟨g, []⟩ H' ⟨w'.mu, [], w'.F⟩ ⟨s.g, []⟩ ∧ WOk K H' ⟨w'.mu, [], w'.F⟩ ⟨s.g, []⟩ ∧ ∀ v ev (k : EV → Prop), EVRep K H' w' s v ev → outE ev s k → ∃ ev', EVRep K H' ⟨w'.mu, [], w'.F⟩ ⟨s.g, []⟩ v ev' ∧ k ev' := by
  have hM : ∀ a, Wd.M ⟨w'.mu, [], w'.F⟩ ⟨s.g, []⟩ a → w'.M s a := fun a q => by
    rcases q with q | ⟨i, ys, q, q2⟩ | q
    · exact .inl q
    · have q : ([] : List Addr)[i]? = some a := q
      rw [List.getElem?_nil] at q
      cases q
    · exact .inr (.inr q)
  have fr : Fr H' w' s H' ⟨w'.mu, [], w'.F⟩ ⟨s.g, []⟩ := fun a o h m => ⟨h, fun q => m (hM a q)⟩
  refine ⟨⟨le.F, le.mu, ⟨[], by simp [hla]⟩, fun a o h m => let z := le.fr a o h m; ⟨z.1, fun q => z.2 (hM a q)⟩, le.fo⟩, ⟨ok.lg, rfl, fun i xs h => ?_, fun i xs h => ?_, fun i a h e => ?_, ?_, fun a h => ?_⟩, fun v ev k r h => ?_⟩
  · obtain ⟨a, vs, e, z, q⟩ := ok.g i xs h
    exact ⟨a, vs, e, z, q.conv fr⟩
  · have h : ([] : List (Option (List D)))[i]? = some (some xs) := h
    rw [List.getElem?_nil] at h
    cases h
  · have h : ([] : List (Option (List D)))[i]? = some none := h
    rw [List.getElem?_nil] at h
    cases h
  · show (w'.mu ++ []).Nodup
    rw [List.append_nil]
    exact ok.nd.sublist (List.sublist_append_left _ _)
  · obtain ⟨q1, q2, _⟩ := ok.fF a h
    exact ⟨q1, q2, fun z => by cases z⟩
  · cases ev with
    | d x => exact ⟨.d x, Rep.conv fr r, h⟩
    | gm n => exact ⟨.gm n, r, h⟩
    | sc x => exact h.elim
    | lm n =>
      have h : (match s.l[n]? with
        | some (some xs) => k (.d (.list xs))
        | _ => False) := h
      split at h
      · rename_i xs hx
        obtain ⟨a, rfl, ha⟩ := r
        obtain ⟨a', vs, e, z, q⟩ := ok.l n xs hx
        rw [ha] at e
        cases e
        have hmem : a ∈ w'.la := List.mem_iff_getElem?.mpr ⟨n, ha⟩
        refine ⟨.d (.list xs), Rep.lst z (fun q => ?_) (q.conv fr), h⟩
        rcases q with q | ⟨i, ys, q, q2⟩ | q
        · exact nodup_parts ok.nd q hmem
        · have q : ([] : List Addr)[i]? = some a := q
          rw [List.getElem?_nil] at q
          cases q
        · exact (ok.fF a q).2.2 hmem
      · exact h.elim
/-! ### defs -/
section
variable (P : Program) (w : World) (K : PySem.W.Frag) (mg : Str → Option Value) (base : Heap)
/-- a def that stands in the module, by its meaning -/
structure Good (k : Nat) (x : Str) (ar : Nat) (f : Sem) : Prop where
  ok : ∃ (fa : Addr) (fd : FuncData) (ps : List Str), FnOkG P w K mg base k fa fd ps (spG K ar f) ∧ mg x = some (.ref fa) ∧ PySem.W.keepIn K (.ref fa) = true ∧ Binds K fd ps []
  mono : SemMono f
def AllGood (k : Nat) : List (Str × Nat × Sem) → Prop
  | [] => True
  | q :: r => Good P w K mg base k q.1 q.2.1 q.2.2 ∧ AllGood k r
def AllGl : List (Str × D) → Prop
  | [] => True
  | q :: r => (∃ u v, mg q.1 = some u ∧ RelV v u ∧ ∀ H M, Rep K H M v q.2) ∧ AllGl r
/-- what is known of the module -/
structure ModG (im : Im) : Prop where
  mgn : ∀ x ∈ bltNames, mg x = none
  gcd : im.g = true → mg "gcd" = some (.builtin "math.gcd")
  isq : im.i = true → mg "isqrt" = some (.builtin "math.isqrt")
  nodig : base.NoDigits
end
section
variable {P : Program} {w : World} {K : PySem.W.Frag} {mg : Str → Option Value} {base : Heap}
theorem FnOkG.up {j k : Nat} {f : Addr} {fd : FuncData} {ps : List Str} {sp : Sp} (F : FnOkG P w K mg base j f fd ps sp) (h : j ≤ k) : FnOkG P w K mg base k f fd ps sp :=
  ⟨F.len, fun A outer s H args us vs Q E hr => F.run A outer s H args us vs Q E (hr.mono h)⟩
theorem Good.up {j k : Nat} {x : Str} {ar : Nat} {f : Sem} (g : Good P w K mg base j x ar f) (h : j ≤ k) : Good P w K mg base k x ar f :=
  ⟨let ⟨fa, fd, ps, F, z⟩ := g.ok; ⟨fa, fd, ps, F.up h, z⟩, g.mono⟩
theorem AllGood.get {k : Nat} : ∀ {l : List (Str × Nat × Sem)}, AllGood P w K mg base k l → ∀ q ∈ l, Good P w K mg base k q.1 q.2.1 q.2.2
  | [], _, _, h => by cases h
  | a :: r, g, q, h => by
    rcases List.mem_cons.mp h with e | e
    · rw [e]; exact g.1
    · exact AllGood.get g.2 q e
theorem AllGl.get : ∀ {l : List (Str × D)}, AllGl K mg l → ∀ q ∈ l, ∃ u v, mg q.1 = some u ∧ RelV v u ∧ ∀ H M, Rep K H M v q.2
  | [], _, _, h => by cases h
  | a :: r, g, q, h => by
    rcases List.mem_cons.mp h with e | e
    · rw [e]; exact g.1
    · exact AllGl.get g.2 q e
theorem AllGood.nil {k : Nat} : AllGood P w K mg base k [] := trivial
theorem AllGood.cons {k : Nat} {q : Str × Nat × Sem} {r : List (Str × Nat × Sem)} (g : Good P w K mg base k q.1 q.2.1 q.2.2) (a : AllGood P w K mg base k r) : AllGood P w K mg base k (q :: r) := ⟨g, a⟩
theorem AllGl.nil : AllGl K mg [] := trivial
theorem AllGl.cons {q : Str × D} {r : List (Str × D)} (g : ∃ u v, mg q.1 = some u ∧ RelV v u ∧ ∀ H M, Rep K H M v q.2) (a : AllGl K mg r) : AllGl K mg (q :: r) := ⟨g, a⟩
theorem spG_imp {ar : Nat} {f f' : Sem} (h : ∀ vs g Q, f' vs g Q → f vs g Q) {vs : List V} {H : Hp} {Q : VK} {E : XK} (q : spG K ar f' vs H Q E) : spG K ar f vs H Q E :=
  let ⟨a, w, g, evs, b, c, d, e⟩ := q; ⟨a, w, g, evs, b, c, d, h _ _ _ e⟩
abbrev outQ (K : PySem.W.Frag) (H : Hp) (w : Wd) (g : List (List D)) (Q : VK) : EV → List (List D) → Prop := fun ev g' => ∀ v H' w', w'.la = [] → Le H w ⟨g, []⟩ H' w' ⟨g', []⟩ → WOk K H' w' ⟨g', []⟩ → EVRep K H' w' ⟨g', []⟩ v ev → Q v H'
theorem EVReps.get {H : Hp} {w : Wd} {st : Sto} : ∀ {vs : List V} {evs : List EV} {i : Nat} {ev : EV}, EVReps K H w st vs evs → evs[i]? = some ev → ∃ v, vs[i]? = some v ∧ EVRep K H w st v ev
  | _, _, _, _, .nil, e => by simp at e
  | _, _, 0, _, .cons r _, e => by simp at e; subst e; exact ⟨_, rfl, r⟩
  | _, _, i + 1, _, .cons _ t, e => by
    obtain ⟨v, h1, h2⟩ := EVReps.get (i := i) t (by simpa using e)
    exact ⟨v, by simpa using h1, h2⟩
/-- the body's reading at the entry -/
theorem entry {tb : Tb} (ht : tb.Mono) {b : IS} {N ps : List Str} (hps : ps.length ≤ N.length) {vs : List V} {H : Hp} {Q : VK} {E : XK} (h : spG K ps.length (semF tb N.length b) vs H Q E) : TSs K tb b { nx := fun _ H' => Q .non H', rt := Q } (L2.start N vs) H := by
  obtain ⟨hl, w, g, evs, hla, ok, er, h⟩ := h
  have hel : evs.length = vs.length := by
    clear h hl
    induction er with
    | nil => rfl
    | cons _ _ ih => rw [List.length_cons, List.length_cons, ih]
  have h : semF tb N.length b evs g (outQ K H w g Q) := h
  refine ⟨w, ⟨g, []⟩, evs.map some ++ List.replicate (N.length - evs.length) none, ok, ?_, semS_mono ht b _ _ { nx := fun _ st => outQ K H w g Q (.d .none) st.g, rt := fun ev st => outE ev st fun v => outQ K H w g Q v st.g, bk := fun _ _ => False, ct := fun _ _ => False } _ ⟨fun e s q σ' H' w' le ok' er' => ?_, fun ev s q v H' w' le ok' r' => ?_, fun _ _ z => z.elim, fun _ _ z => z.elim⟩ h⟩
  · refine ⟨by simp [L2.start, hel], fun i ev hi => ?_⟩
    by_cases hlt : i < evs.length
    · rw [List.getElem?_append_left (by simpa using hlt), List.getElem?_map] at hi
      have hg : ∃ v, vs[i]? = some v ∧ EVRep K H w ⟨g, []⟩ v ev := by
        cases he : evs[i]? with
        | none => rw [he] at hi; cases hi
        | some e0 =>
          rw [he] at hi
          cases hi
          exact er.get he
      obtain ⟨v, h1, h2⟩ := hg
      refine ⟨v, ?_, h2⟩
      unfold L2.start
      rw [List.getElem?_append_left (by simp; omega), List.getElem?_map, h1]
      rfl
    · rw [List.getElem?_append_right (by simpa using hlt), List.getElem?_replicate] at hi
      split at hi <;> cases hi
  · obtain ⟨l1, o1, _⟩ := leave hla le ok'
    exact q .non H' _ rfl l1 o1 Rep.non
  · obtain ⟨l1, o1, k1⟩ := leave hla le ok'
    obtain ⟨ev', r1, q1⟩ := k1 v ev (fun v => outQ K H w g Q v s.g) r' q
    exact q1 v H' _ rfl l1 o1 r1
/-- THE RULE: a def of the module, by the check of its body -/
theorem def_fn {k : Nat} {x qual : Str} {params : Arguments} {body : List Stmt} {scope : Scope} {kws : List (Str × V)} {f : Addr} {fd : FuncData} {N ps : List Str} (tb : Tb) (b : IS) {gcd : Im} (M : ModG mg base gcd) (G : AllGood P w K mg base k tb.fn) (L : AllGl K mg tb.gl)
    (F : FunD K x qual params body scope [] kws f fd) (S : FnScope N ps scope) {sp : Sem} (himp : ∀ vs g Q, sp vs g Q → semF tb N.length b vs g Q)
    (hck : (ckS b ⟨N, scope, fun _ => true, tb.fn.map fun q => (q.1, q.2.1), tb.gl.map (·.1), gcd⟩).ss body = true) : FnOkG P w K mg base (k + 1) f fd ps (spG K ps.length sp) := by
  have mono : tb.Mono := Tb.mono_of fun q hq => (G.get q hq).mono
  have hpl : ps.length ≤ N.length := by have := congrArg List.length S.pre; rw [List.length_take] at this; omega
  obtain ⟨oc, od, dV, kV, doc, pm, an, cdv, ct, osl, rfl, lk, hcd, _, _⟩ := F.ex
  refine ⟨fun vs H Q E h => h.1, fun A outer s H args us vs Q E hr hg e0 hbt r hsp => ?_⟩
  have KX : K.In s.heap := e0.mod.kin.keeps fun b o e => (e0.bs b o e).1
  have lim : s.heap.NoLimit := e0.mod.nolimit.keeps fun b o e => (e0.bs b o e).1
  refine codeAny_call_function hr.depth (KX _ _ lk) rfl S.co S.gen rfl (PySem.W.codeRec_of KX hcd) (hbt _ _ _ _ ?_)
  refine wpAny_newFunctionEnv_cells S.kind (fun ⟨n, v⟩ hy => ?_) fun env he s1 x1 => ?_
  · rcases S.par n (List.of_mem_zip hy).1 with q | q
    · exact .inl q
    · exact .inr ⟨q, PySem.W.cellsFrom_some _ _ _ (.inl q)⟩
  subst he
  refine ⟨lim.keeps x1.toInCall.keep, codeAny_func ?_⟩
  have hr' := hr.deeper (envOfC qual scope s.heap.objs.size f cdv)
  have cx : CxOk tb ⟨N, scope, fun _ => true, tb.fn.map fun q => (q.1, q.2.1), tb.gl.map (·.1), gcd⟩ (cxOf CX0 P w K mg base N qual scope f cdv A outer s H E).nox :=
    { xo := ⟨rfl, rfl, by have := hr'.un; show (A.deeper _).units + 65 < cLine; omega, guards_deeper hg, M.nodig⟩, mono := mono, N := rfl, nd := S.nd, sc := rfl, fn := fun _ _ => rfl, fns := rfl, gls := rfl,
      ok := fun n q hq => ⟨let ⟨fa, fd, ps', F', z1, z2, z3⟩ := (G.get q (List.mem_of_getElem? hq)).ok; ⟨fa, fd, ps', k, F', hr', z1, z2, z3⟩⟩,
      gk := fun n q hq => L.get q (List.mem_of_getElem? hq), mgn := M.mgn, gcd := M.gcd, isq := M.isq }
  have ht : PSs (cxOf CX0 P w K mg base N qual scope f cdv A outer s H E) body (TSs K tb b) := PSs.nox ((sd tb b).ss _ _ cx body hck)
  have hq := entry mono hpl (spG_imp himp hsp)
  have I : Inv (cxOf CX0 P w K mg base N qual scope f cdv A outer s H E) [] (L2.start N vs) H s1 := inv_start S hr.hd e0 hsp.1 r x1
  refine wpAny_mono (ht.run [] s1 (L2.start N vs) H _ I hq) (fun fl s' hs => ?_) fun e s' hs => hs
  have fin : ∀ {σ' : L2.St} {H' : Hp} {v : V} {u : Value}, Inv (cxOf CX0 P w K mg base N qual scope f cdv A outer s H E) [] σ' H' s' → RelV v u → Q v H' → CE outer P w H s Q u s' :=
    fun {σ' H' v u} J rv q => ⟨v, H', J.os, J.bare, J.base, J.hok, rv, q⟩
  cases fl with
  | ret u =>
    obtain ⟨v, σ', H', J, rv, q⟩ := hs
    exact fin J rv q
  | next =>
    obtain ⟨σ', H', J, q⟩ := hs
    exact fin (v := V.non) (u := Value.none) J rfl q
  | brk =>
    obtain ⟨_, _, _, q⟩ := hs
    exact False.elim q
  | cont =>
    obtain ⟨_, _, _, q⟩ := hs
    exact False.elim q
theorem def_ok {k : Nat} {x y qual : Str} {params : Arguments} {body : List Stmt} {scope : Scope} {kws : List (Str × V)} {f : Addr} {fd : FuncData} {N ps : List Str} (tb : Tb) (b : IS) {gcd : Im} (M : ModG mg base gcd) (G : AllGood P w K mg base k tb.fn) (L : AllGl K mg tb.gl)
    (F : FunD K x qual params body scope [] kws f fd) (S : FnScope N ps scope) (hb : Binds K fd ps []) (hx : mg y = some (.ref f)) {sp : Sem} (hm : SemMono sp) (himp : ∀ vs g Q, sp vs g Q → semF tb N.length b vs g Q)
    (hck : (ckS b ⟨N, scope, fun _ => true, tb.fn.map fun q => (q.1, q.2.1), tb.gl.map (·.1), gcd⟩).ss body = true) : Good P w K mg base (k + 1) y ps.length sp :=
  ⟨⟨f, fd, ps, def_fn tb b M G L F S himp hck, hx, F.kp, hb⟩, hm⟩
end
/-! ### the law -/
/-- the law's promise is enough -/
theorem spG_law {K : PySem.W.Frag} {f : Sem} (hm : SemMono f) {H : Hp} {a : Addr} {ns : List Int} {E : XK} (hS : SqL K H a (ns.map V.int)) (h : f [.sc (ns.map PyData.int)] [] fun ev _ => ev = .d (.bool true)) :
    spG K 1 f [.ref a] H (fun v _ => v = .bl true) E := by
  have rs : Reps K H (Wd.M ⟨[], [], fun _ => False⟩ ⟨[], []⟩) (ns.map V.int) (ns.map PyData.int) := by
    clear h hS
    induction ns with
    | nil => exact .nil
    | cons n ns ih => exact .cons (.int n) ih
  have nM : ¬ Wd.M ⟨[], [], fun _ => False⟩ ⟨[], []⟩ a := by
    rintro (q | ⟨i, ys, q, _⟩ | q)
    · cases q
    · have q : ([] : List Addr)[i]? = some a := q
      rw [List.getElem?_nil] at q
      cases q
    · exact q
  refine ⟨rfl, ⟨[], [], fun _ => False⟩, [], [.sc (ns.map PyData.int)], rfl, ⟨rfl, rfl, fun i xs q => ?_, fun i xs q => ?_, fun i b q => ?_, List.nodup_nil, fun b q => q.elim⟩, .cons ⟨a, _, rfl, hS.elim (fun z => .inl ⟨z, nM⟩) .inr, rs⟩ .nil, hm _ _ _ _ (fun ev g e v H' w' _ _ _ r => ?_) h⟩
  · simp at q
  · simp at q
  · simp at q
  · subst e
    cases (show Rep _ _ _ v _ from r)
    rfl
theorem walk_ofG {l : PySem.W.OpenLaw} {n k : Nat} {q : Program} {loose : List Str} {XP : (Str → Option Value) → Heap → Prop} {YP : World → Heap → Prop} {d : DefRec} {x : Str} {f : Sem}
    (hn : l.most = some n) (hn2 : n ≤ sizeLine) (hdf : d.params.defaults = []) (hr : Room k callerA) (hm : SemMono f)
    (F : ∀ (w : World) (mg : Str → Option Value) (fa : Addr) (h : Heap), YP w h → h.Ns mainGlobals mg → mg d.name = some (.ref fa) →
      ∃ (K : PySem.W.Frag) (fd : FuncData), K.In h ∧ (∀ (s : Shared) (u : Value), BindsTo s fd ⟨[u], []⟩ [(x, u)]) ∧ ∀ base : Heap, K.In base → base.Ns mainGlobals mg → base.NoDigits → FnOkG l.prog w K mg base k fa fd [x] (spG K 1 f))
    (hlaw : ∀ ns : List Int, ns.length ≤ n → f [.sc (ns.map PyData.int)] [] fun ev _ => ev = .d (.bool true)) :
    PySem.W.WalkO q loose XP YP l.row.toRowW d [] (fun f vs => PySem.call f vs) := by
  refine Att.attach_call hn hdf fun w s₀ s₁ mg mb fa o pm cd doc a vs ns G Y ho hd hcd hmg hobj hints hlen hg => ?_
  obtain ⟨K, fd, KX, hbind, hF⟩ := F w mg fa _ Y G.T.g hmg
  have rv := vals_ints hints
  have lenV := hints.length
  have hl : ns.length ≤ sizeLine := Nat.le_trans hlen hn2
  obtain ⟨H, hO, hS, hok, hA, hK⟩ : ∃ H : Hp, Only H ∧ SqL K H a (ns.map V.int) ∧ HOk l.prog w H s₁.heap ∧ (∀ b, H b ≠ none → b = a) ∧ (H a ≠ none → K.lookup a = none) := by
    cases hk : K.lookup a with
    | some ob =>
      have e := KX a ob hk
      rw [hobj] at e
      cases e
      exact ⟨fun _ => none, fun _ => .inl rfl, .inr ⟨_, vs.toArray, _, hk, rfl, rfl, rfl, by rw [List.size_toArray, lenV]; exact hl, by simpa using rv⟩, (fun b u z => nomatch (show (none : Option HO) = some u from z)), fun b z => absurd rfl z, fun z => absurd rfl z⟩
    | none =>
      refine ⟨fun b => if b = a then some (.frz { cls := .type "list", data := .seq vs.toArray } (.lst (ns.map V.int))) else none, fun b => ?_, .inl (.inr ⟨_, if_pos rfl⟩), fun b u z => ?_, fun b z => ?_, fun _ => rfl⟩
      · by_cases hb : b = a
        · exact .inr ⟨_, _, if_pos hb⟩
        · exact .inl (if_neg hb)
      · by_cases hb : b = a
        · have z' := (if_pos hb).symm.trans z
          cases z'
          subst hb
          exact ⟨hobj, by rw [List.length_map]; exact hl, vs, _, rv, hobj⟩
        · have z' := (if_neg hb).symm.trans z
          cases z'
      · by_cases hb : b = a
        · exact hb
        · exact absurd (if_neg hb) z
  have atA : ∀ {b : Addr}, H b ≠ none → b = a := fun {b} => hA b
  have free : ∀ {b : Addr} {o : Obj}, s₁.heap.get? b = some o → o ≠ { cls := .type "list", data := .seq vs.toArray } → H b = none := fun {b o} e ne => by
    cases q : H b with
    | none => rfl
    | some u =>
      have e' := atA (b := b) (by rw [q]; simp)
      subst e'
      rw [hobj] at e
      cases e
      exact absurd rfl ne
  have nsK : ∀ {b : Addr} {m : Str → Option Value}, s₁.heap.Ns b m → (hidT s₁.heap H).Ns b m := fun {b m} ⟨o, es, ep, e, dd, r⟩ =>
    ⟨o, es, ep, hidT_get e (free e fun z => by rw [z] at dd; cases dd), dd, r⟩
  have hKb : K.In (hidT s₁.heap H) := fun b ob e => hidT_get (KX b ob e) (by
    cases q : H b with
    | none => rfl
    | some u =>
      have e' := atA (b := b) (by rw [q]; simp)
      subst e'
      rw [hK (by rw [q]; simp)] at e
      cases e)
  have hM : Mod K mg (hidT s₁.heap H) := ⟨hKb, nsK G.T.g, ⟨mb, nsK G.T.b, G.T.builtins⟩, let ⟨mc, h1, h2⟩ := G.T.nolimit; ⟨mc, nsK h1, h2⟩⟩
  have nd : (hidT s₁.heap H).NoDigits := let ⟨mc, h1, h2⟩ := G.T.nodigits; ⟨mc, nsK h1, h2⟩
  have e0 : Env0 l.prog w K mg (hidT s₁.heap H) callerA [] s₁ H := ⟨rfl, hM, fun b ob e => of_hidT e, Nat.le_of_eq (hidT_size _ _), trivial, fun b hb => absurd (show b ∈ ([] : List Addr) from hb) (by simp), hok, .of_eq hg⟩
  refine codeAny_mono ((hF _ hKb (nsK G.T.g) nd).run callerA [] s₁ H ⟨[.ref a], []⟩ [.ref a] [.ref a] (fun v _ => v = .bl true) (fun _ _ _ => False) hr rfl e0 (hbind s₁ (.ref a)) (.cons rfl .nil) (spG_law hm hS (hlaw ns hlen))) fun r s' h => ?_
  cases r with
  | error e => exact False.elim h
  | ok fl =>
    cases fl with
    | next => exact False.elim h
    | brk => exact False.elim h
    | cont => exact False.elim h
    | ret u =>
      obtain ⟨v, H', os, bare, un, hok', r', q⟩ := h
      have q' : v = .bl true := q
      subst q'
      obtain rfl : u = Value.bool true := r'
      refine ⟨rfl, OldK.of_keep fun b ob e => ?_, os, bare⟩
      cases q : H b with
      | none => exact un.keep b ob e q (by intro z; exact absurd (show b ∈ ([] : List Addr) from z) (by simp)) (by simp)
      | some u =>
        rcases hO b with z | ⟨o2, xs, z⟩
        · rw [q] at z; cases z
        · have z2 := un.frzs b o2 _ z
          obtain ⟨e1, _⟩ := hok b _ z
          obtain ⟨e2, _⟩ := hok' b _ z2
          rw [e] at e1; cases e1
          exact e2
end VI

/-! VI17: a module's constants. -/
namespace VI
open PySem PySem.Spec PyProof.Rows L2
mutual
theorem repB_ok {K : PySem.W.Frag} : ∀ {d : D} {u : Value}, repB K d u = true → ∃ v, RelV v u ∧ ∀ H M, Rep K H M v d
  | .none, u, h => by
    cases u <;> first | exact ⟨.non, rfl, fun _ _ => .non⟩ | (simp [repB] at h)
  | .bool a, u, h => by
    cases u with
    | bool b =>
      simp only [repB] at h
      have e := eq_of_beq h
      subst e
      exact ⟨.bl a, rfl, fun _ _ => .bl a⟩
    | _ => simp [repB] at h
  | .int i, u, h => by
    cases u with
    | int j t =>
      simp only [repB] at h
      have e := of_decide_eq_true h
      subst e
      exact ⟨.int i, ⟨t, rfl⟩, fun _ _ => .int i⟩
    | _ => simp [repB] at h
  | .str x, u, h => by
    cases u with
    | str y t =>
      simp only [repB] at h
      have e := of_decide_eq_true h
      subst e
      exact ⟨.str x, ⟨t, rfl⟩, fun _ _ => .str x⟩
    | _ => simp [repB] at h
  | .tuple ds, u, h => by
    cases u with
    | ref a =>
      simp only [repB] at h
      cases q : K.lookup a with
      | none => rw [q] at h; cases h
      | some o =>
        rw [q] at h
        obtain ⟨oc, od, dt, sl⟩ := o
        cases oc with
        | type c =>
          cases dt with
          | seq its n =>
            obtain ⟨h1, h2⟩ := band h
            obtain ⟨h2, h3⟩ := band h2
            obtain ⟨vs, rv, rr⟩ := repsB_ok h3
            refine ⟨.ref a, rfl, fun H M => .tup (.inr ⟨_, its, n, q, ?_, rfl, line1k (of_decide_eq_true h2), rv⟩) (rr H M)⟩
            show Value.type c = _
            rw [of_decide_eq_true h1]
          | _ => cases h
        | _ => cases dt <;> cases h
    | _ => simp [repB] at h
  | .list ds, u, h => by
    cases u <;> simp [repB] at h
  | .dict ds, u, h => by
    cases u <;> simp [repB] at h
theorem repsB_ok {K : PySem.W.Frag} : ∀ {ds : List D} {us : List Value}, repsB K ds us = true → ∃ vs, Vals vs us ∧ ∀ H M, Reps K H M vs ds
  | [], [], _ => ⟨[], .nil, fun _ _ => .nil⟩
  | [], _ :: _, h => by simp [repsB] at h
  | _ :: _, [], h => by simp [repsB] at h
  | d :: ds, u :: us, h => by
    simp only [repsB] at h
    obtain ⟨h1, h2⟩ := band h
    obtain ⟨v, r, rr⟩ := repB_ok h1
    obtain ⟨vs, q, qq⟩ := repsB_ok h2
    exact ⟨v :: vs, .cons r q, fun H M => .cons (rr H M) (qq H M)⟩
end
/-- the module's name x stands for the data d -/
theorem conB_ok {K : PySem.W.Frag} {h : Heap} {mg : Str → Option Value} {x : Str} {d : D} (X : K.In h) (G : h.Ns mainGlobals mg) (c : conB K x d = true) : ∃ u v, mg x = some u ∧ RelV v u ∧ ∀ H M, Rep K H M v d := by
  unfold conB at c
  cases e : PySem.W.nsIn K mainGlobals x with
  | none => rw [e] at c; cases c
  | some o =>
    rw [e] at c
    cases o with
    | none => cases c
    | some u =>
      obtain ⟨v, r, rr⟩ := repB_ok c
      exact ⟨u, v, PySem.W.mg_of X G e, r, rr⟩
end VI

/-! PL: plain lemmas. -/
namespace VI
open PySem
/-! ### bounds -/
def Bd (k : Nat) (x : Int) : Prop := x.natAbs < 2 ^ k
theorem Bd.up {k l : Nat} {x : Int} (h : Bd k x) (e : k ≤ l) : Bd l x := Nat.lt_of_lt_of_le h (Nat.pow_le_pow_right (by decide) e)
theorem Bd.mul {k l : Nat} {x y : Int} (h : Bd k x) (h' : Bd l y) : Bd (k + l) (x * y) := by
  unfold Bd at *
  rw [Int.natAbs_mul, Nat.pow_add]
  exact Nat.mul_lt_mul'' h h'
theorem Bd.add {k l : Nat} {x y : Int} (h : Bd k x) (h' : Bd l y) : Bd (max k l + 1) (x + y) := by
  have h1 := h.up (Nat.le_max_left k l)
  have h2 := h'.up (Nat.le_max_right k l)
  unfold Bd at *
  have := Int.natAbs_add_le x y
  rw [Nat.pow_succ]
  omega
theorem Bd.neg {k : Nat} {x : Int} (h : Bd k x) : Bd k (-x) := by
  unfold Bd at *
  rw [Int.natAbs_neg]
  exact h
theorem Bd.sub {k l : Nat} {x y : Int} (h : Bd k x) (h' : Bd l y) : Bd (max k l + 1) (x - y) := by
  rw [Int.sub_eq_add_neg]
  exact h.add h'.neg
theorem Bd.abs {k : Nat} {x : Int} (h : Bd k x) : Bd k (x.natAbs : Int) := by
  unfold Bd at *
  rw [Int.natAbs_natCast]
  exact h
theorem Bd.of_natAbs {k : Nat} {x y : Int} (h : Bd k x) (e : y.natAbs ≤ x.natAbs) : Bd k y := Nat.lt_of_le_of_lt e h
theorem Bd.emod {k : Nat} {x y : Int} (h : Bd k y) (hy : 0 < y) : Bd k (x % y) := by
  have h1 := Int.emod_nonneg x (Int.ne_of_gt hy)
  have h2 := Int.emod_lt_of_pos x hy
  exact h.of_natAbs (by omega)
theorem Bd.fdiv {k : Nat} {x y : Int} (h : Bd k x) : Bd k (x.fdiv y) := by
  refine h.of_natAbs ?_
  rcases Int.lt_trichotomy y 0 with hy | hy | hy
  · have : x.fdiv y = (-x).fdiv (-y) := by rw [Int.neg_fdiv_neg]
    rw [this, Int.fdiv_eq_ediv_of_nonneg _ (by omega)]
    exact Nat.le_trans (Int.natAbs_ediv_le_natAbs _ _) (by rw [Int.natAbs_neg]; exact Nat.le_refl _)
  · subst hy
    rw [Int.fdiv_zero]
    simp
  · rw [Int.fdiv_eq_ediv_of_nonneg _ (by omega)]
    exact Int.natAbs_ediv_le_natAbs _ _
theorem Bd.gcd {k : Nat} {x y : Int} (h : Bd k y) (hy : y ≠ 0) : Bd k (Int.gcd x y : Int) := by
  refine h.of_natAbs ?_
  rw [Int.natAbs_natCast]
  exact Nat.le_of_dvd (by omega) (Nat.gcd_dvd_right _ _)
theorem Bd.pow {k : Nat} {x : Int} (h : Bd k x) : ∀ n : Nat, Bd (k * n + 1) (x ^ n)
  | 0 => by
    unfold Bd
    simp
  | n + 1 => by
    have ih := Bd.pow h n
    rw [Int.pow_succ]
    refine (ih.mul h).up ?_
    rw [Nat.mul_succ]
    omega
theorem Bd.lit (x : Int) : Bd (x.natAbs.log2 + 1) x := by
  unfold Bd
  exact Nat.lt_log2_self
theorem Bd.lit64 (x : Int) (h : x.natAbs < 18446744073709551616) : Bd 64 x := h
theorem Bd.log {k : Nat} {x : Int} (h : Bd k x) : x.natAbs.log2 ≤ k := by
  by_cases e : x.natAbs = 0
  · rw [e]
    exact Nat.zero_le _
  · exact Nat.le_of_lt ((Nat.log2_lt e).mpr h)
theorem Bd.mulOk {k l : Nat} {x y : Int} (h : Bd k x) (h' : Bd l y) (e : k + l < 1000000) : MulOk x y := by
  unfold MulOk
  have := h.log
  have := h'.log
  omega
theorem Bd.divOk {k : Nat} {y : Int} (h : Bd k y) (hy : y ≠ 0) (e : k < 9000) : y ≠ 0 ∧ y.natAbs.log2 < 9000 := ⟨hy, Nat.lt_of_le_of_lt h.log e⟩
theorem Bd.show {k : Nat} {y : Int} (h : Bd k y) (e : k ≤ 14000) : y.natAbs < 10 ^ 4300 := Nat.lt_of_lt_of_le (h.up e) (by decide +kernel)
/-! ### fractions in lowest terms -/
abbrev P2 : Type := Int × Int
def dF (p : P2) : D := .tuple [.int p.1, .int p.2]
def nrm (n d : Int) : P2 := if 0 < d then (n.fdiv (Int.gcd n d), d.fdiv (Int.gcd n d)) else (n.fdiv (-(Int.gcd n d : Int)), d.fdiv (-(Int.gcd n d : Int)))
structure Can (p : P2) : Prop where
  pos : 0 < p.2
  cop : Int.gcd p.1 p.2 = 1
theorem fdiv_dvd {a b : Int} (h : b ∣ a) (hb : b ≠ 0) : a.fdiv b * b = a := by
  obtain ⟨c, rfl⟩ := h
  rw [Int.mul_fdiv_cancel_left _ hb, Int.mul_comm]
theorem nrm_spec {n d : Int} (hd : d ≠ 0) : ∃ c : Int, c ≠ 0 ∧ n = (nrm n d).1 * c ∧ d = (nrm n d).2 * c ∧ 0 < (nrm n d).2 ∧ c.natAbs = Int.gcd n d := by
  have hg : (0 : Int) < (Int.gcd n d : Int) := by
    have : 0 < Int.gcd n d := Nat.pos_of_ne_zero fun e => hd (Int.eq_zero_of_gcd_eq_zero_right e)
    omega
  have d1 : (Int.gcd n d : Int) ∣ n := Int.gcd_dvd_left _ _
  have d2 : (Int.gcd n d : Int) ∣ d := Int.gcd_dvd_right _ _
  unfold nrm
  by_cases hp : 0 < d
  · rw [if_pos hp]
    refine ⟨Int.gcd n d, by omega, (fdiv_dvd d1 (by omega)).symm, (fdiv_dvd d2 (by omega)).symm, ?_, Int.natAbs_natCast _⟩
    have e := fdiv_dvd d2 (by omega)
    show 0 < d.fdiv _
    apply Int.pos_of_mul_pos_left (b := (Int.gcd n d : Int)) <;> first | (rw [e]; exact hp) | omega
  · rw [if_neg hp]
    have n1 : -(Int.gcd n d : Int) ∣ n := Int.neg_dvd.mpr d1
    have n2 : -(Int.gcd n d : Int) ∣ d := Int.neg_dvd.mpr d2
    refine ⟨-(Int.gcd n d : Int), by omega, (fdiv_dvd n1 (by omega)).symm, (fdiv_dvd n2 (by omega)).symm, ?_, by rw [Int.natAbs_neg, Int.natAbs_natCast]⟩
    have e := fdiv_dvd n2 (by omega)
    show 0 < d.fdiv _
    have e2 : d.fdiv (-(Int.gcd n d : Int)) * (Int.gcd n d : Int) = -d := by
      rw [Int.mul_neg] at e
      omega
    apply Int.pos_of_mul_pos_left (b := (Int.gcd n d : Int)) <;> first | (rw [e2]; omega) | omega
theorem nrm_can {n d : Int} (hd : d ≠ 0) : Can (nrm n d) := by
  obtain ⟨c, hc, h1, h2, h3, h4⟩ := nrm_spec (n := n) hd
  refine ⟨h3, ?_⟩
  have key : ∀ a b : Int, n = a * c → d = b * c → Int.gcd n d = Int.gcd a b * c.natAbs := by
    intro a b e1 e2
    rw [e1, e2]
    exact Int.gcd_mul_right ..
  have e := key _ _ h1 h2
  rw [← h4] at e
  have hc' : 0 < c.natAbs := by omega
  have e2 : 1 * c.natAbs = Int.gcd (nrm n d).1 (nrm n d).2 * c.natAbs := by rw [Nat.one_mul]; exact e
  exact (Nat.eq_of_mul_eq_mul_right hc' e2).symm
theorem nrm_eq {n d : Int} (hd : d ≠ 0) : (nrm n d).1 * d = n * (nrm n d).2 := by
  obtain ⟨c, hc, h1, h2, h3, h4⟩ := nrm_spec (n := n) hd
  generalize nrm n d = p at *
  rw [h1, h2]
  grind
theorem dvd_cop {a b c : Int} (h : b ∣ a * c) (g : Int.gcd a b = 1) : b ∣ c := by
  have h2 : b.natAbs ∣ a.natAbs * c.natAbs := by
    rw [← Int.natAbs_mul]
    exact Int.natAbs_dvd_natAbs.mpr h
  have g2 : Nat.Coprime b.natAbs a.natAbs := by
    rw [Nat.coprime_comm]
    exact g
  exact Int.natAbs_dvd_natAbs.mp (g2.dvd_of_dvd_mul_left h2)
theorem can_uniq {p q : P2} (hp : Can p) (hq : Can q) (e : p.1 * q.2 = q.1 * p.2) : p = q := by
  obtain ⟨a, b⟩ := p
  obtain ⟨c, d⟩ := q
  obtain ⟨p1, p2⟩ := hp
  obtain ⟨q1, q2⟩ := hq
  simp only at *
  have d1 : b ∣ d := by
    have : b ∣ a * d := ⟨c, by rw [e, Int.mul_comm]⟩
    exact dvd_cop this p2
  have d2 : d ∣ b := by
    have : d ∣ c * b := ⟨a, by rw [← e, Int.mul_comm]⟩
    exact dvd_cop this q2
  have e1 : b = d := Int.dvd_antisymm (by omega) (by omega) d1 d2
  subst e1
  have e2 : a = c := Int.eq_of_mul_eq_mul_right (by omega) e
  rw [e2]
theorem nrm_of {p : P2} {n d : Int} (hp : Can p) (hd : d ≠ 0) (e : p.1 * d = n * p.2) : nrm n d = p := by
  refine can_uniq (nrm_can hd) hp ?_
  have h := nrm_eq (n := n) hd
  have : ((nrm n d).1 * p.2) * d = (p.1 * (nrm n d).2) * d := by grind
  exact Int.eq_of_mul_eq_mul_right hd this
theorem Bd.nrm1 {k : Nat} {n d : Int} (h : Bd k n) : Bd k (nrm n d).1 := by
  unfold nrm
  split <;> exact h.fdiv
theorem Bd.nrm2 {k : Nat} {n d : Int} (h : Bd k d) : Bd k (nrm n d).2 := by
  unfold nrm
  split <;> exact h.fdiv
/-! ### the bag -/
def BagAt (C : Nat) (xs : List D) : Prop := ∃ (a b c : Int) (cs : List Int), xs = [.int a, .int b, .int c, .list (cs.map PyData.int)] ∧ Bd 31 b ∧ 0 ≤ c ∧ c ≤ C ∧ cs.length ≤ 63
theorem BagAt.up {C E : Nat} {xs : List D} (h : BagAt C xs) (e : C ≤ E) : BagAt E xs := let ⟨a, b, c, cs, h1, h2, h3, h4, h5⟩ := h; ⟨a, b, c, cs, h1, h2, h3, by omega, h5⟩
end VI

/-! PL2: data that may be compared and shown. -/
namespace VI
open PySem
theorem textFrom_up : ∀ (ts : List Str) (k : Nat) (acc : Str), (textFrom k acc ts).length ≤ acc.length + piled ts
  | [], k, acc => by
    show acc.length ≤ acc.length + piled []
    omega
  | t :: r, k, acc => by
    have h := textFrom_up r (k + 1) (acc ++ (if k > 0 then ", " else "" : String) ++ t)
    have e : (acc ++ (if k > 0 then ", " else "" : String) ++ t).length ≤ acc.length + 2 + t.length := by
      rw [strLen_append, strLen_append]
      split
      · show acc.length + 2 + t.length ≤ _
        omega
      · show acc.length + 0 + t.length ≤ _
        omega
    rw [piled_cons]
    show (textFrom (k + 1) _ r).length ≤ _
    omega
theorem listText_up (ts : List Str) : (listText ts).length ≤ 2 + piled ts := by
  unfold listText
  rw [strLen_append]
  have h := textFrom_up ts 0 "["
  have e1 : (("[" : String) : Str).length = 1 := rfl
  have e2 : (("]" : String) : Str).length = 1 := rfl
  omega
theorem tupleText_up (ts : List Str) : (tupleText ts).length ≤ 4 + piled ts := by
  unfold tupleText
  rw [strLen_append, strLen_append]
  have e1 : (("(" : String) : Str).length = 1 := rfl
  have e2 : (((if ts.length == 1 then ",)" else ")" : String)) : Str).length ≤ 2 := by
    split
    · exact Nat.le_refl _
    · show 1 ≤ 2
      omega
  by_cases h : ts = []
  · subst h
    have e3 : (Str.join ", " []).length = 0 := rfl
    omega
  · have := join_length_add ts h
    omega
/-- may be compared, may be shown -/
structure Fit (k w : Nat) (d : D) : Prop where
  lay : d.canLay0 = true
  shw : showB d = true
  dep : d.depth ≤ k
  len : d.shown.length ≤ w
theorem Fit.up {k w k' w' : Nat} {d : D} (h : Fit k w d) (e : k ≤ k') (e' : w ≤ w') : Fit k' w' d := ⟨h.lay, h.shw, Nat.le_trans h.dep e, Nat.le_trans h.len e'⟩
theorem Fit.rep {k w : Nat} {d : D} (h : Fit k w d) (e : k ≤ 64) (e' : w ≤ 16000000) : RepOk d :=
  ⟨Bool.and_eq_true_iff.mpr ⟨h.lay, decide_eq_true (Nat.le_trans h.dep e)⟩, h.shw, Nat.le_trans h.len e'⟩
theorem Fit.shp {k w : Nat} {d : D} (h : Fit k w d) (e : k ≤ 64) : Shp d := Bool.and_eq_true_iff.mpr ⟨h.lay, decide_eq_true (Nat.le_trans h.dep e)⟩
theorem Fit.int {i : Int} (h : i.natAbs < 10 ^ 4300) : Fit 0 4310 (.int i) := ⟨rfl, decide_eq_true h, Nat.le_refl _, by
  show (Str.ofString (toString i)).length ≤ 4310
  have e := int_text_length_le10 (k := 4300) (by decide) h
  clear h
  rw [ofString_length]
  omega⟩
theorem Fit.bd {k : Nat} {i : Int} (h : Bd k i) (e : k ≤ 14000) : Fit 0 4310 (.int i) := Fit.int (h.show e)
theorem Fit.bool (b : Bool) : Fit 0 5 (.bool b) := ⟨rfl, rfl, Nat.le_refl _, by cases b <;> decide⟩
theorem Fit.none : Fit 0 5 .none := ⟨rfl, rfl, Nat.le_refl _, by decide⟩
theorem all_fit {k w : Nat} : ∀ {ds : List D}, (∀ d ∈ ds, Fit k w d) → PyData.canLayAll0 ds = true ∧ showBs ds = true ∧ PyData.depthAll ds ≤ k ∧ piled (PyData.shownAll ds) ≤ ds.length * (w + 2)
  | [], _ => ⟨by simp [PyData.canLayAll0], by simp [showBs], by simp [PyData.depthAll], by simp [PyData.shownAll, piled]⟩
  | d :: ds, h => by
    obtain ⟨h1, h2, h3, h4⟩ := all_fit fun x hx => h x (List.mem_cons_of_mem _ hx)
    have f := h d List.mem_cons_self
    refine ⟨?_, ?_, ?_, ?_⟩
    · simp [PyData.canLayAll0, h1, f.lay]
    · simp [showBs, h2, f.shw]
    · simp only [PyData.depthAll]
      have := f.dep
      omega
    · simp only [PyData.shownAll, piled_cons, List.length_cons]
      have := f.len
      rw [Nat.add_mul]
      omega
theorem Fit.tup {k w : Nat} {ds : List D} (h : ∀ d ∈ ds, Fit k w d) : Fit (k + 1) (4 + ds.length * (w + 2)) (.tuple ds) := by
  obtain ⟨h1, h2, h3, h4⟩ := all_fit h
  refine ⟨by simp only [PyData.canLay0]; exact h1, by simp only [showB]; exact h2, by simp only [PyData.depth]; omega, ?_⟩
  simp only [PyData.shown]
  have := tupleText_up (PyData.shownAll ds)
  omega
theorem Fit.lst {k w : Nat} {ds : List D} (h : ∀ d ∈ ds, Fit k w d) : Fit (k + 1) (4 + ds.length * (w + 2)) (.list ds) := by
  obtain ⟨h1, h2, h3, h4⟩ := all_fit h
  refine ⟨by simp only [PyData.canLay0]; exact h1, by simp only [showB]; exact h2, by simp only [PyData.depth]; omega, ?_⟩
  simp only [PyData.shown]
  have := listText_up (PyData.shownAll ds)
  omega
theorem all_nil {P : D → Prop} : ∀ d ∈ ([] : List D), P d := fun _ h => by cases h
theorem all_cons {P : D → Prop} {x : D} {xs : List D} (h : P x) (t : ∀ d ∈ xs, P d) : ∀ d ∈ x :: xs, P d := fun d hd => (List.mem_cons.mp hd).elim (fun e => by rw [e]; exact h) (t d)
mutual
theorem eqv_refl0 : ∀ d : D, d.canLay0 = true → PyData.eqv d d = true
  | .none, _ => by rw [PyData.eqv]
  | .bool b, _ => by rw [PyData.eqv]; exact beq_self_eq_true b
  | .int i, _ => by rw [PyData.eqv]; exact beq_self_eq_true i
  | .str x, _ => by rw [PyData.eqv]; exact beq_self_eq_true x
  | .list xs, h => by rw [PyData.eqv]; exact eqvs_refl0 xs (by simpa only [PyData.canLay0] using h)
  | .tuple xs, h => by rw [PyData.eqv]; exact eqvs_refl0 xs (by simpa only [PyData.canLay0] using h)
  | .dict _, h => by simp [PyData.canLay0] at h
theorem eqvs_refl0 : ∀ ds : List D, PyData.canLayAll0 ds = true → PyData.eqvAll ds ds = true
  | [], _ => by rw [PyData.eqvAll]
  | x :: xs, h => by
    simp only [PyData.canLayAll0, Bool.and_eq_true] at h
    rw [PyData.eqvAll, eqv_refl0 x h.1, eqvs_refl0 xs h.2]
    rfl
end
theorem eqv_int (i j : Int) : PyData.eqv (.int i) (.int j) = decide (i = j) := by rw [PyData.eqv, Bool.beq_eq_decide_eq]
theorem eqv_str (i j : Str) : PyData.eqv (.str i) (.str j) = decide (i = j) := by rw [PyData.eqv, Bool.beq_eq_decide_eq]
theorem eqv_self {x : D} (h : Shp x) : PyData.eqv x x = true := eqv_refl0 x (SeqAt.canLay_of_shaped h)
/-! ### loops -/
theorem brP_mono {x : Bool} {a b a' b' : Prop} (h : a → a') (h' : b → b') (q : brP x a b) : brP x a' b' := ⟨fun z => h (q.1 z), fun z => h' (q.2 z)⟩
/-- a comprehension without a test, each turn of which gives one item -/
theorem loopC_map {tg : EV → En → (En → Prop) → Prop} {e : En → Sto → KE → Prop} {env : En} {st : Sto} (f : D → D) {k : List D → Sto → Prop} : ∀ (xs acc : List D),
    (∀ x ∈ xs, ∀ k' : EV → Sto → Prop, k' (.d (f x)) st → tg (.d x) env fun env' => e env' st k') → k (acc ++ xs.map f) st → loopC tg (fun _ st k => k true st) e env xs st acc k
  | [], acc, _, q => by
    rw [List.map_nil, List.append_nil] at q
    exact q
  | x :: xs, acc, h, q => by
    have h1 := h x List.mem_cons_self (fun ev st2 => dE ev fun y => loopC tg (fun _ st k => k true st) e env xs st2 (acc ++ [y]) k)
      (loopC_map f xs (acc ++ [f x]) (fun y hy => h y (List.mem_cons_of_mem _ hy)) (by rw [List.append_assoc]; exact q))
    exact (show tg (.d x) env fun env' => brP true (e env' st fun ev st2 => dE ev fun y => loopC tg (fun _ st k => k true st) e env xs st2 (acc ++ [y]) k) _ from by
      simp only [show ∀ a b : Prop, brP true a b = a from fun a b => propext ⟨brT', brT⟩]
      exact h1)
theorem loopC_inv {tb : Tb} (ht : tb.Mono) {t c e : IE} {env : En} {k : List D → Sto → Prop} (P : Nat → Sto → List D → Prop) {xs : List D}
    (step : ∀ i x st acc, xs[i]? = some x → P i st acc → (sem tb t).a (.d x) env fun env' => (sem tb c).t env' st fun b st1 => brP b ((sem tb e).e env' st1 fun ev st2 => dE ev fun y => P (i + 1) st2 (acc ++ [y])) (P (i + 1) st1 acc))
    (done : ∀ st acc, P xs.length st acc → k acc st) : ∀ {st : Sto} {acc : List D}, P 0 st acc → loopC (sem tb t).a (sem tb c).t (sem tb e).e env xs st acc k := by
  have go : ∀ (ys : List D) (i : Nat) (st : Sto) (acc : List D), xs.drop i = ys → i ≤ xs.length → P i st acc → loopC (sem tb t).a (sem tb c).t (sem tb e).e env ys st acc k := by
    intro ys
    induction ys with
    | nil =>
      intro i st acc hd hi hp
      have : i = xs.length := by
        have := congrArg List.length hd
        rw [List.length_drop] at this
        simp at this
        omega
      subst this
      exact done st acc hp
    | cons y ys ih =>
      intro i st acc hd hi hp
      have hlt : i < xs.length := by
        have := congrArg List.length hd
        rw [List.length_drop] at this
        simp at this
        omega
      have hx : xs[i]? = some y := by
        have := congrArg (fun l => l[0]?) hd
        simp only [List.getElem?_drop] at this
        simpa using this
      have hd' : xs.drop (i + 1) = ys := by
        have := congrArg List.tail hd
        simpa using this
      refine (sem_mono ht t).a _ _ _ _ (fun env' q => (sem_mono ht c).t _ _ _ _ (fun b st1 q => brP_mono (fun q => (sem_mono ht e).e _ _ _ _ (fun ev st2 q => ?_) q) (fun q => ?_) q) q) (step i y st acc hx hp)
      · unfold dE at q ⊢
        split at q
        · exact ih (i + 1) _ _ hd' hlt q
        · exact q.elim
      · exact ih (i + 1) _ _ hd' hlt q
  intro st acc hp
  exact go xs 0 st acc rfl (Nat.zero_le _) hp
theorem loopF_inv {tb : Tb} (ht : tb.Mono) {t : IE} {b : IS} {K : KS} (P : Nat → En → Sto → Prop) {xs : List D}
    (step : ∀ i x env st, xs[i]? = some x → P i env st → (sem tb t).a (.d x) env fun env' => semS tb b env' st { nx := P (i + 1), rt := K.rt, bk := K.nx, ct := P (i + 1) })
    (done : ∀ env st, P xs.length env st → K.nx env st) : ∀ {env : En} {st : Sto}, P 0 env st → loopF (sem tb t).a (semS tb b) xs env st K := by
  have go : ∀ (ys : List D) (i : Nat) (env : En) (st : Sto), xs.drop i = ys → i ≤ xs.length → P i env st → loopF (sem tb t).a (semS tb b) ys env st K := by
    intro ys
    induction ys with
    | nil =>
      intro i env st hd hi hp
      have : i = xs.length := by
        have := congrArg List.length hd
        rw [List.length_drop] at this
        simp at this
        omega
      subst this
      exact done env st hp
    | cons y ys ih =>
      intro i env st hd hi hp
      have hlt : i < xs.length := by
        have := congrArg List.length hd
        rw [List.length_drop] at this
        simp at this
        omega
      have hx : xs[i]? = some y := by
        have := congrArg (fun l => l[0]?) hd
        simp only [List.getElem?_drop] at this
        simpa using this
      have hd' : xs.drop (i + 1) = ys := by
        have := congrArg List.tail hd
        simpa using this
      refine (sem_mono ht t).a _ _ _ _ (fun env' q => semS_mono ht b _ _ { nx := P (i + 1), rt := K.rt, bk := K.nx, ct := P (i + 1) } _ ⟨fun e s q => ih (i + 1) e s hd' hlt q, fun _ _ z => z, fun _ _ z => z, fun e s q => ih (i + 1) e s hd' hlt q⟩ q) (step i y env st hx hp)
  intro env st hp
  exact go xs 0 env st rfl (Nat.zero_le _) hp
theorem cut_len {α : Type} (xs : List α) (lo hi : Option Int) : (cutD xs lo hi).length ≤ xs.length := by
  unfold cutD
  rw [List.length_take, List.length_drop]
  omega
theorem cut_map {α β : Type} (f : α → β) (xs : List α) (lo hi : Option Int) : cutD (xs.map f) lo hi = (cutD xs lo hi).map f := by
  unfold cutD
  rw [List.length_map, List.map_take, List.map_drop]
theorem cut_le (n : Nat) {α : Type} (xs : List α) : (cutD xs none (some (n : Int))).length ≤ n := by
  unfold cutD
  rw [List.length_take, List.length_drop]
  simp only [HT.sIx]
  split <;> omega
end VI

/-! PL3: nearest integers, sums of fractions. -/
namespace VI
open PySem
def ways5 : List Str := ["even", "away", "up", "down", "zero"]
/-- the integer to which n/d is rounded: q its floor, r what is left -/
def near (way : Str) (n d q r : Int) : Int :=
  if r = 0 then q else if way = "down" then q else if way = "up" then q + 1 else if way = "zero" then (if n > 0 then q else q + 1)
  else if 2 * r < d then q else if d < 2 * r then q + 1 else if way = "even" then q + q % 2 else (if n > 0 then q + 1 else q)
theorem fdiv_parts {n d : Int} (hd : 0 < d) : ∃ q r : Int, n.fdiv d = q ∧ n = q * d + r ∧ 0 ≤ r ∧ r < d := by
  refine ⟨n.fdiv d, n - n.fdiv d * d, rfl, by omega, ?_, ?_⟩
  · rw [Int.fdiv_eq_ediv_of_nonneg _ (by omega)]
    have := Int.ediv_mul_le n (b := d) (by omega)
    omega
  · rw [Int.fdiv_eq_ediv_of_nonneg _ (by omega)]
    have := Int.lt_ediv_add_one_mul_self n hd
    rw [Int.add_mul] at this
    omega
theorem fdiv_of {n d q r : Int} (hd : 0 < d) (e : n = q * d + r) (h0 : 0 ≤ r) (h1 : r < d) : n.fdiv d = q := by
  rw [Int.fdiv_eq_ediv_of_nonneg _ (by omega)]
  rw [e, Int.add_comm, Int.add_mul_ediv_right _ _ (by omega), Int.ediv_eq_zero_of_lt h0 h1]
  omega
/-- the ceiling -/
theorem ceil_parts {n d q r : Int} (hd : 0 < d) (e : n = q * d + r) (h0 : 0 ≤ r) (h1 : r < d) : -((-n).fdiv d) = if r = 0 then q else q + 1 := by
  by_cases hr : r = 0
  · rw [if_pos hr, fdiv_of (n := -n) (q := -q) (r := 0) hd (by subst hr; grind) (by omega) hd]
    omega
  · rw [if_neg hr, fdiv_of (n := -n) (q := -q - 1) (r := d - r) hd (by grind) (by omega) (by omega)]
    omega
theorem sign_parts {n d q r : Int} (hd : 0 < d) (e : n = q * d + r) (h0 : 0 ≤ r) (h1 : r < d) : (0 ≤ q → 0 ≤ n) ∧ (q < 0 → n < 0) := by
  refine ⟨fun h => ?_, fun h => ?_⟩
  · have := Int.mul_nonneg h (by omega : 0 ≤ d)
    omega
  · have : q * d ≤ -1 * d := Int.mul_le_mul_of_nonneg_right (by omega) (by omega)
    omega
def addP (p q : P2) : P2 := nrm (p.1 * q.2 + q.1 * p.2) (p.2 * q.2)
/-- a fraction of so many bits -/
structure Fra (k : Nat) (p : P2) : Prop where
  can : Can p
  b1 : Bd k p.1
  b2 : Bd k p.2
theorem Fra.up {k l : Nat} {p : P2} (h : Fra k p) (e : k ≤ l) : Fra l p := ⟨h.can, h.b1.up e, h.b2.up e⟩
theorem Fra.ne {k : Nat} {p : P2} (h : Fra k p) : p.2 ≠ 0 := by have := h.can.pos; omega
theorem Fra.nrm {k : Nat} {n d : Int} (h0 : d ≠ 0) (h1 : Bd k n) (h2 : Bd k d) : Fra k (nrm n d) := ⟨nrm_can h0, h1.nrm1, h2.nrm2⟩
theorem mul_ne {a b : Int} (h : a ≠ 0) (h' : b ≠ 0) : a * b ≠ 0 := Int.mul_ne_zero h h'
theorem Fra.add {k l : Nat} {p q : P2} (h : Fra k p) (h' : Fra l q) : Fra (k + l + 1) (addP p q) :=
  Fra.nrm (mul_ne h.ne h'.ne) (((h.b1.mul h'.b2).add (h'.b1.mul h.b2)).up (by omega)) ((h.b2.mul h'.b2).up (by omega))
theorem Fra.fit {k : Nat} {p : P2} (h : Fra k p) (e : k ≤ 14000) : Fit 1 8628 (dF p) :=
  (Fit.tup (all_cons (Fit.bd h.b1 e) (all_cons (Fit.bd h.b2 e) all_nil))).up (by omega) (by simp)
theorem fr01 : Fra 1 (0, 1) := ⟨⟨by decide, by decide⟩, by unfold Bd; decide, by unfold Bd; decide⟩
/-- a sum, from (0, 1) on -/
def totP (l : List P2) : P2 := l.foldl addP (0, 1)
theorem Fra.tot {k : Nat} : ∀ (l : List P2) (p : P2) (j : Nat), Fra j p → (∀ q ∈ l, Fra k q) → Fra (j + (k + 1) * l.length) (l.foldl addP p)
  | [], p, j, h, _ => h.up (by omega)
  | q :: l, p, j, h, hl => by
    have := Fra.tot l (addP p q) (j + k + 1) (h.add (hl q List.mem_cons_self)) fun x hx => hl x (List.mem_cons_of_mem _ hx)
    refine this.up ?_
    rw [List.length_cons, Nat.mul_add]
    omega
/-! ### the worth -/
def wo (p : P2) : Rat := (p.1 : Rat) / (p.2 : Rat)
theorem wo_eq {p q : P2} (hp : Can p) (hq : Can q) (e : wo p = wo q) : p = q := by
  refine can_uniq hp hq ?_
  have h1 : (p.2 : Rat) ≠ 0 := fun h => by
    have := hp.pos
    have h' : p.2 = 0 := by exact_mod_cast h
    omega
  have h2 : (q.2 : Rat) ≠ 0 := fun h => by
    have := hq.pos
    have h' : q.2 = 0 := by exact_mod_cast h
    omega
  unfold wo at e
  have : (p.1 : Rat) * q.2 = q.1 * p.2 := by grind
  exact_mod_cast this
theorem wo_nrm {n d : Int} (hd : d ≠ 0) : wo (nrm n d) = (n : Rat) / (d : Rat) := by
  have h := nrm_eq (n := n) hd
  have h1 : ((nrm n d).2 : Rat) ≠ 0 := fun h => by
    have := (nrm_can (n := n) hd).pos
    have h' : (nrm n d).2 = 0 := by exact_mod_cast h
    omega
  have h2 : (d : Rat) ≠ 0 := fun h => hd (by exact_mod_cast h)
  have h3 : ((nrm n d).1 : Rat) * d = n * (nrm n d).2 := by exact_mod_cast h
  unfold wo
  grind
theorem wo_add {p q : P2} (hp : Can p) (hq : Can q) : wo (addP p q) = wo p + wo q := by
  have a := hp.pos
  have b := hq.pos
  unfold addP
  rw [wo_nrm (mul_ne (by omega) (by omega))]
  have h1 : (p.2 : Rat) ≠ 0 := fun h => by
    have h' : p.2 = 0 := by exact_mod_cast h
    omega
  have h2 : (q.2 : Rat) ≠ 0 := fun h => by
    have h' : q.2 = 0 := by exact_mod_cast h
    omega
  unfold wo
  push_cast
  grind
def subP (p q : P2) : P2 := nrm (p.1 * q.2 - q.1 * p.2) (p.2 * q.2)
def mulP (p q : P2) : P2 := nrm (p.1 * q.1) (p.2 * q.2)
def divP (p q : P2) : P2 := nrm (p.1 * q.2) (p.2 * q.1)
theorem nrm_ne {n d : Int} (h : d ≠ 0) : (nrm n d).2 ≠ 0 := by have := (nrm_can (n := n) h).pos; omega
theorem rat_ne {d : Int} (h : d ≠ 0) : (d : Rat) ≠ 0 := fun e => h (by exact_mod_cast e)
theorem wo_sub {p q : P2} (hp : Can p) (hq : Can q) : wo (subP p q) = wo p - wo q := by
  have a := hp.pos
  have b := hq.pos
  unfold subP
  rw [wo_nrm (mul_ne (by omega) (by omega))]
  have h1 := rat_ne (show p.2 ≠ 0 by omega)
  have h2 := rat_ne (show q.2 ≠ 0 by omega)
  unfold wo
  push_cast
  grind
theorem wo_mul {p q : P2} (hp : Can p) (hq : Can q) : wo (mulP p q) = wo p * wo q := by
  have a := hp.pos
  have b := hq.pos
  unfold mulP
  rw [wo_nrm (mul_ne (by omega) (by omega))]
  have h1 := rat_ne (show p.2 ≠ 0 by omega)
  have h2 := rat_ne (show q.2 ≠ 0 by omega)
  unfold wo
  push_cast
  grind
theorem wo_div {p q : P2} (hp : Can p) (hq : Can q) (h0 : q.1 ≠ 0) : wo (divP p q) = wo p / wo q := by
  have a := hp.pos
  have b := hq.pos
  unfold divP
  rw [wo_nrm (mul_ne (by omega) h0)]
  have h1 := rat_ne (show p.2 ≠ 0 by omega)
  have h2 := rat_ne (show q.2 ≠ 0 by omega)
  have h3 := rat_ne h0
  unfold wo
  push_cast
  grind
theorem wo_ne {q : P2} (hq : Can q) (h0 : q.1 ≠ 0) : wo q ≠ 0 := by
  have b := hq.pos
  have h2 := rat_ne (show q.2 ≠ 0 by omega)
  have h3 := rat_ne h0
  unfold wo
  grind
theorem can_add {p q : P2} (hp : Can p) (hq : Can q) : Can (addP p q) := nrm_can (mul_ne (by have := hp.pos; omega) (by have := hq.pos; omega))
theorem can_sub {p q : P2} (hp : Can p) (hq : Can q) : Can (subP p q) := nrm_can (mul_ne (by have := hp.pos; omega) (by have := hq.pos; omega))
theorem can_mul {p q : P2} (hp : Can p) (hq : Can q) : Can (mulP p q) := nrm_can (mul_ne (by have := hp.pos; omega) (by have := hq.pos; omega))
theorem can_div {p q : P2} (hp : Can p) (h0 : q.1 ≠ 0) : Can (divP p q) := nrm_can (mul_ne (by have := hp.pos; omega) h0)
theorem sub_add {p q : P2} (hp : Can p) (hq : Can q) : subP (addP p q) q = p := by
  refine wo_eq (can_sub (can_add hp hq) hq) hp ?_
  rw [wo_sub (can_add hp hq) hq, wo_add hp hq]
  grind
theorem mul_div {p q : P2} (hp : Can p) (hq : Can q) (h0 : q.1 ≠ 0) : mulP (divP p q) q = p := by
  refine wo_eq (can_mul (can_div hp h0) hq) hp ?_
  rw [wo_mul (can_div hp h0) hq, wo_div hp hq h0]
  have := wo_ne hq h0
  grind
/-- the sign of a difference -/
theorem sgn_sub {p q : P2} (hp : Can p) (hq : Can q) : (0 < (subP p q).1 ↔ q.1 * p.2 < p.1 * q.2) ∧ ((subP p q).1 < 0 ↔ p.1 * q.2 < q.1 * p.2) := by
  have a := hp.pos
  have b := hq.pos
  have hd : 0 < p.2 * q.2 := Int.mul_pos a b
  have e := nrm_eq (n := p.1 * q.2 - q.1 * p.2) (show p.2 * q.2 ≠ 0 by omega)
  have hs := (can_sub hp hq).pos
  unfold subP at *
  generalize nrm (p.1 * q.2 - q.1 * p.2) (p.2 * q.2) = s at *
  generalize p.2 * q.2 = d at *
  generalize hx : p.1 * q.2 - q.1 * p.2 = x at *
  have k1 : 0 < s.1 ↔ 0 < x := by
    constructor
    · intro h
      have : 0 < s.1 * d := Int.mul_pos h hd
      rw [e] at this
      exact Int.pos_of_mul_pos_left (b := s.2) this hs
    · intro h
      have : 0 < x * s.2 := Int.mul_pos h hs
      rw [← e] at this
      exact Int.pos_of_mul_pos_left (b := d) this hd
  have k2 : s.1 < 0 ↔ x < 0 := by
    constructor
    · intro h
      have : 0 < (-s.1) * d := Int.mul_pos (by omega) hd
      rw [Int.neg_mul, e, ← Int.neg_mul] at this
      have := Int.pos_of_mul_pos_left (b := s.2) this hs
      omega
    · intro h
      have : 0 < (-x) * s.2 := Int.mul_pos (by omega) hs
      rw [Int.neg_mul, ← e, ← Int.neg_mul] at this
      have := Int.pos_of_mul_pos_left (b := d) this hd
      omega
  rw [k1, k2]
  omega
theorem nrm_scale {p : P2} (hp : Can p) {k : Int} (hk : k ≠ 0) : nrm (p.1 * k) (p.2 * k) = p := by
  have a := hp.pos
  exact nrm_of hp (mul_ne (by omega) hk) (by grind)
theorem wo01 : wo (0, 1) = 0 := by
  unfold wo
  simp
  grind
theorem can01 : Can (0, 1) := ⟨by decide, by decide⟩
theorem can_tot : ∀ (l : List P2) (p : P2), Can p → (∀ q ∈ l, Can q) → Can (l.foldl addP p)
  | [], _, h, _ => h
  | q :: l, p, h, hl => can_tot l _ (can_add h (hl q List.mem_cons_self)) fun x hx => hl x (List.mem_cons_of_mem _ hx)
theorem wo_tot : ∀ (l : List P2) (p : P2), Can p → (∀ q ∈ l, Can q) → wo (l.foldl addP p) = wo p + (l.foldr (fun q s => wo q + s) 0)
  | [], p, _, _ => by
    show wo p = wo p + 0
    grind
  | q :: l, p, h, hl => by
    show wo (l.foldl addP (addP p q)) = wo p + (wo q + l.foldr (fun q s => wo q + s) 0)
    rw [wo_tot l _ (can_add h (hl q List.mem_cons_self)) fun x hx => hl x (List.mem_cons_of_mem _ hx), wo_add h (hl q List.mem_cons_self)]
    grind
theorem tot_one {p : P2} (hp : Can p) : totP [p] = p := by
  refine wo_eq (can_add can01 hp) hp ?_
  show wo (addP (0, 1) p) = _
  rw [wo_add can01 hp, wo01]
  grind
theorem tot_four {l : List P2} (hl : ∀ q ∈ l, Can q) : totP (l ++ (l ++ (l ++ l))) = mulP (totP l) (4, 1) := by
  have c4 : Can (4, 1) := ⟨by decide, by decide⟩
  have h4 : ∀ q ∈ l ++ (l ++ (l ++ l)), Can q := fun q hq => by
    simp only [List.mem_append, or_self] at hq
    exact hl q hq
  refine wo_eq (can_tot _ _ can01 h4) (can_mul (can_tot _ _ can01 hl) c4) ?_
  unfold totP
  rw [wo_mul (can_tot _ _ can01 hl) c4, wo_tot _ _ can01 h4, wo_tot _ _ can01 hl, wo01]
  have e4 : wo (4, 1) = 4 := by
    unfold wo
    grind
  have ap : ∀ (a b : List P2), (a ++ b).foldr (fun q s => wo q + s) (0 : Rat) = a.foldr (fun q s => wo q + s) 0 + b.foldr (fun q s => wo q + s) 0 := by
    intro a b
    induction a with
    | nil =>
      show _ = (0 : Rat) + _
      rw [List.nil_append]
      grind
    | cons x a ih =>
      rw [List.cons_append, List.foldr_cons, List.foldr_cons, ih]
      grind
  rw [ap, ap, ap, e4]
  grind
theorem nrm_inv {x : Int} (hx : 0 < x) : nrm 1 x = (1, x) := nrm_of ⟨hx, Int.gcd_one_left ..⟩ (by omega) (by simp)
theorem nrm_11 {x y : Int} (h : x = y) (hx : x ≠ 0) : nrm x y = (1, 1) := nrm_of ⟨by decide, by decide⟩ (by omega) (by show 1 * y = x * 1; omega)
theorem Fit.pair {k l : Nat} {a b : Int} (h : Bd k a) (h' : Bd l b) (e : k ≤ 14000) (e' : l ≤ 14000) : Fit 2 9000 (.tuple [.int a, .int b]) :=
  (Fit.tup (all_cons (Fit.bd h e) (all_cons (Fit.bd h' e') all_nil))).up (by omega) (by simp)
theorem Fit.nrm {k l : Nat} {a b : Int} (h : Bd k a) (h' : Bd l b) (e : k ≤ 14000) (e' : l ≤ 14000) : Fit 2 9000 (dF (nrm a b)) := Fit.pair h.nrm1 h'.nrm2 e e'
theorem Fit.one {k : Nat} {a : Int} (h : Bd k a) (e : k ≤ 14000) : Fit 2 9000 (.int a) := (Fit.bd h e).up (by omega) (by omega)
theorem Fit.cmp {a b : Prop} [Decidable a] [Decidable b] : Fit 2 9000 (.int ((if a then 1 else 0) - (if b then 1 else 0))) :=
  Fit.one (k := 2) (by unfold Bd; split <;> split <;> decide) (by omega)
end VI

/-! PL4: formats, values, ranks. -/
namespace VI
open PySem
structure Fm where
  b : Int
  p : Int
  lo : Int
  hi : Int
def fmD (f : Fm) : D := .tuple [.int f.b, .int f.p, .int f.lo, .int f.hi]
structure FmOk (f : Fm) : Prop where
  b2 : 2 ≤ f.b
  b36 : f.b ≤ 36
  p2 : 2 ≤ f.p
  p120 : f.p ≤ 120
  lh : f.lo ≤ f.hi
  l : -1300 ≤ f.lo
  h : f.hi ≤ 1300
  bp : Bd 640 (f.b ^ f.p.toNat)
  bl : Bd 2400 (f.b ^ f.lo.natAbs)
  bh : Bd 2400 (f.b ^ f.hi.natAbs)
def fmB (f : Fm) : Bool := decide (2 ≤ f.b) && decide (f.b ≤ 36) && decide (2 ≤ f.p) && decide (f.p ≤ 120) && decide (f.lo ≤ f.hi) && decide (-1300 ≤ f.lo) && decide (f.hi ≤ 1300) &&
  decide ((f.b ^ f.p.toNat).natAbs < 2 ^ 640) && decide ((f.b ^ f.lo.natAbs).natAbs < 2 ^ 2400) && decide ((f.b ^ f.hi.natAbs).natAbs < 2 ^ 2400)
theorem fmOk_of {f : Fm} (h : fmB f = true) : FmOk f := by
  unfold fmB at h
  simp only [Bool.and_eq_true, decide_eq_true_eq] at h
  obtain ⟨⟨⟨⟨⟨⟨⟨⟨⟨h1, h2⟩, h3⟩, h4⟩, h5⟩, h6⟩, h7⟩, h8⟩, h9⟩, h10⟩ := h
  exact ⟨h1, h2, h3, h4, h5, h6, h7, h8, h9, h10⟩
/-- a format's data -/
def fmOf : D → Option Fm
  | .tuple [.int b, .int p, .int lo, .int hi] => some ⟨b, p, lo, hi⟩
  | _ => none
/-- all of a list are formats -/
def fmsB (ds : List D) : Bool := ds.all fun d => match fmOf d with
  | some f => fmB f
  | none => false
theorem fmsB_of {ds : List D} (h : fmsB ds = true) {d : D} (hd : d ∈ ds) : ∃ f, d = fmD f ∧ FmOk f := by
  have q := List.all_eq_true.mp h d hd
  cases e : fmOf d with
  | none => rw [e] at q; cases q
  | some f =>
    rw [e] at q
    refine ⟨f, ?_, fmOk_of q⟩
    unfold fmOf at e
    split at e
    · cases e
      rfl
    · cases e
/-- values -/
inductive Vl where
  | num (s c e : Int)
  | inf (s : Int)
  | nan
def vlD : Vl → D
  | .num s c e => .tuple [.str "num", .int s, .int c, .int e]
  | .inf s => .tuple [.str "inf", .int s]
  | .nan => .tuple [.str "nan"]
structure NumOk (f : Fm) (s c e : Int) : Prop where
  s : s = 0 ∨ s = 1
  e1 : f.lo ≤ e
  e2 : e ≤ f.hi
  c0 : 0 ≤ c
  c1 : c < f.b ^ f.p.toNat
  c2 : e = f.lo ∨ f.b ^ (f.p - 1).toNat ≤ c
def VlOk (f : Fm) : Vl → Prop
  | .num s c e => NumOk f s c e
  | .inf s => s = 0 ∨ s = 1
  | .nan => True
/-! ### ranks -/
def Fm.F (f : Fm) : Int := f.b ^ (f.p - 1).toNat
def Fm.T (f : Fm) : Int := f.b ^ f.p.toNat
def Fm.W (f : Fm) : Int := (f.b - 1) * f.F
def Fm.X (f : Fm) : Int := (f.hi - f.lo) * f.W + f.T
theorem FmOk.T_eq {f : Fm} (h : FmOk f) : f.T = f.b * f.F := by
  unfold Fm.T Fm.F
  have : f.p.toNat = (f.p - 1).toNat + 1 := by have := h.p2; omega
  rw [this, Int.pow_succ, Int.mul_comm]
theorem FmOk.TF {f : Fm} (h : FmOk f) : f.T = f.F + f.W := by
  rw [h.T_eq]
  unfold Fm.W
  grind
theorem FmOk.F_pos {f : Fm} (h : FmOk f) : 1 ≤ f.F := by
  have : 0 < f.F := Int.pow_pos (by have := h.b2; omega)
  omega
theorem FmOk.W_pos {f : Fm} (h : FmOk f) : 1 ≤ f.W := by
  unfold Fm.W
  have h1 := h.F_pos
  have h2 := h.b2
  have : 0 < (f.b - 1) * f.F := Int.mul_pos (by omega) (by omega)
  omega
theorem FmOk.bdT {f : Fm} (h : FmOk f) : Bd 640 f.T := h.bp
theorem FmOk.bdF {f : Fm} (h : FmOk f) : Bd 640 f.F := by
  refine h.bp.of_natAbs ?_
  have h1 := h.F_pos
  have h2 := h.W_pos
  have h3 := h.TF
  show f.F.natAbs ≤ f.T.natAbs
  omega
theorem FmOk.bdW {f : Fm} (h : FmOk f) : Bd 640 f.W := by
  refine h.bp.of_natAbs ?_
  have h1 := h.F_pos
  have h2 := h.W_pos
  have h3 := h.TF
  show f.W.natAbs ≤ f.T.natAbs
  omega
/-- the value with the rank r -/
def atV (f : Fm) (r : Int) : Option Vl :=
  if (r.natAbs : Int) < f.F then some (.num (if r < 0 then 1 else 0) r.natAbs f.lo)
  else if f.lo + (r.natAbs - f.F).fdiv f.W ≤ f.hi then some (.num (if r < 0 then 1 else 0) (r.natAbs - (r.natAbs - f.F).fdiv f.W * f.W) (f.lo + (r.natAbs - f.F).fdiv f.W))
  else if (r.natAbs : Int) = f.X then some (.inf (if r < 0 then 1 else 0)) else none
def oD : Option Vl → D
  | some v => vlD v
  | none => .none
/-- the steps behind the lead -/
theorem FmOk.steps {f : Fm} (h : FmOk f) {m : Int} (h1 : f.F ≤ m) : ∃ q r : Int, (m - f.F).fdiv f.W = q ∧ m - f.F = q * f.W + r ∧ 0 ≤ r ∧ r < f.W ∧ 0 ≤ q := by
  obtain ⟨q, r, a, b, c, d⟩ := fdiv_parts (n := m - f.F) (d := f.W) (by have := h.W_pos; omega)
  refine ⟨q, r, a, b, c, d, ?_⟩
  have hw := h.W_pos
  apply Int.not_lt.mp
  intro hq
  have : q * f.W ≤ -1 * f.W := Int.mul_le_mul_of_nonneg_right (by omega) (by omega)
  omega
/-- beyond the greatest -/
theorem FmOk.over {f : Fm} (h : FmOk f) {m q r : Int} (e : m - f.F = q * f.W + r) (h0 : 0 ≤ r) (h1 : r < f.W) : f.lo + q ≤ f.hi ↔ m < f.X := by
  have hw := h.W_pos
  have ht := h.TF
  unfold Fm.X
  constructor
  · intro hq
    have : q * f.W ≤ (f.hi - f.lo) * f.W := Int.mul_le_mul_of_nonneg_right (by omega) (by omega)
    omega
  · intro hm
    apply Int.not_lt.mp
    intro hq
    have : (f.hi - f.lo + 1) * f.W ≤ q * f.W := Int.mul_le_mul_of_nonneg_right (by omega) (by omega)
    rw [Int.add_mul] at this
    omega
def vlOf : D → Option Vl
  | .tuple [.str t, .int s, .int c, .int e] => if t = "num" then some (.num s c e) else none
  | .tuple [.str t, .int s] => if t = "inf" then some (.inf s) else none
  | .tuple [.str t] => if t = "nan" then some .nan else none
  | _ => none
def rkV (f : Fm) : Vl → Int
  | .num s c e => if s = 1 then -((e - f.lo) * f.W + c) else (e - f.lo) * f.W + c
  | .inf s => if s = 1 then -f.X else f.X
  | .nan => 0
def notNan : Vl → Prop
  | .nan => False
  | _ => True
/-- what the powers ask -/
theorem FmOk.pw {f : Fm} (h : FmOk f) : (∃ k, Bd k f.b ∧ 0 ≤ f.p ∧ k * (4 * f.p.toNat + 4) ≤ 900000) ∧ (∃ k, Bd k f.b ∧ 0 ≤ f.p - 1 ∧ k * (4 * (f.p - 1).toNat + 4) ≤ 900000) := by
  have h1 := h.b2
  have h2 := h.b36
  have h3 := h.p2
  have h4 := h.p120
  have hb : Bd 6 f.b := by unfold Bd; omega
  exact ⟨⟨6, hb, by omega, by omega⟩, ⟨6, hb, by omega, by omega⟩⟩
def sgn (r : Int) : Int := if r < 0 then 1 else 0
theorem atV_lo {f : Fm} {r : Int} (h : (r.natAbs : Int) < f.F) : atV f r = some (.num (sgn r) r.natAbs f.lo) := if_pos h
theorem atV_mid {f : Fm} {r : Int} (h : f.F ≤ (r.natAbs : Int)) (h2 : f.lo + (r.natAbs - f.F).fdiv f.W ≤ f.hi) : atV f r = some (.num (sgn r) (r.natAbs - (r.natAbs - f.F).fdiv f.W * f.W) (f.lo + (r.natAbs - f.F).fdiv f.W)) :=
  (if_neg (by omega)).trans (if_pos h2)
theorem atV_inf {f : Fm} {r : Int} (h : f.F ≤ (r.natAbs : Int)) (h2 : ¬ f.lo + (r.natAbs - f.F).fdiv f.W ≤ f.hi) (h3 : (r.natAbs : Int) = f.X) : atV f r = some (.inf (sgn r)) :=
  (if_neg (by omega)).trans ((if_neg h2).trans (if_pos h3))
theorem atV_none {f : Fm} {r : Int} (h : f.F ≤ (r.natAbs : Int)) (h2 : ¬ f.lo + (r.natAbs - f.F).fdiv f.W ≤ f.hi) (h3 : (r.natAbs : Int) ≠ f.X) : atV f r = none :=
  (if_neg (by omega)).trans ((if_neg h2).trans (if_neg h3))
theorem FmOk.XF {f : Fm} (hf : FmOk f) : f.T ≤ f.X := by
  unfold Fm.X
  have := Int.mul_nonneg (show 0 ≤ f.hi - f.lo by have := hf.lh; omega) (show 0 ≤ f.W by have := hf.W_pos; omega)
  omega
/-- by the greatest rank -/
theorem atV_most {f : Fm} (hf : FmOk f) {r : Int} (h : f.X ≤ (r.natAbs : Int)) : atV f r = if (r.natAbs : Int) = f.X then some (.inf (sgn r)) else none := by
  have h1 := hf.XF
  have h2 := hf.TF
  have h3 := hf.W_pos
  have hF : f.F ≤ (r.natAbs : Int) := by omega
  obtain ⟨q, z, a, b, c, d, _⟩ := hf.steps hF
  have ho := hf.over b c d
  have hn : ¬ f.lo + ((r.natAbs : Int) - f.F).fdiv f.W ≤ f.hi := by
    rw [a, ho]
    omega
  by_cases e : (r.natAbs : Int) = f.X
  · rw [if_pos e]
    exact atV_inf hF hn e
  · rw [if_neg e]
    exact atV_none hF hn e
/-- below the second lead -/
theorem atV_T {f : Fm} (hf : FmOk f) {r : Int} (h : (r.natAbs : Int) < f.T) : atV f r = some (.num (sgn r) r.natAbs f.lo) := by
  have h2 := hf.TF
  have h3 := hf.W_pos
  by_cases hF : (r.natAbs : Int) < f.F
  · exact atV_lo hF
  · have e : ((r.natAbs : Int) - f.F).fdiv f.W = 0 := fdiv_of (r := r.natAbs - f.F) (by omega) (by omega) (by omega) (by omega)
    rw [atV_mid (by omega) (by rw [e]; have := hf.lh; omega), e]
    simp
/-- between -/
theorem atV_btw {f : Fm} (hf : FmOk f) {r : Int} (h : f.T ≤ (r.natAbs : Int)) (h2 : (r.natAbs : Int) < f.X) : atV f r = some (.num (sgn r) (r.natAbs - (r.natAbs - f.F).fdiv f.W * f.W) (f.lo + (r.natAbs - f.F).fdiv f.W)) := by
  have h1 := hf.TF
  have h3 := hf.W_pos
  have hF : f.F ≤ (r.natAbs : Int) := by omega
  obtain ⟨q, z, a, b, c, d, _⟩ := hf.steps hF
  have ho := hf.over b c d
  exact atV_mid hF (by rw [a, ho]; exact h2)
theorem FmOk.F2 {f : Fm} (hf : FmOk f) : 2 ≤ f.F := by
  unfold Fm.F
  have e : (f.p - 1).toNat = (f.p - 2).toNat + 1 := by have := hf.p2; omega
  have hb := hf.b2
  have h0 : 0 < f.b ^ (f.p - 2).toNat := Int.pow_pos (by omega)
  rw [e, Int.pow_succ]
  have := Int.mul_le_mul (show (1 : Int) ≤ f.b ^ (f.p - 2).toNat by omega) hb (by omega) (by omega)
  omega
end VI

/-! PL5: worths of numbers, their order by ranks, next ones. -/
namespace VI
open PySem
def powP (b e : Int) : P2 := if 0 ≤ e then (b ^ e.toNat, 1) else (1, b ^ (-e).toNat)
def wv (b s c e : Int) : P2 := if s = 1 then (-(mulP (c, 1) (powP b e)).1, (mulP (c, 1) (powP b e)).2) else mulP (c, 1) (powP b e)
def bp (b e : Int) : Rat := wo (powP b e)
theorem powI_pos {b : Int} (hb : 2 ≤ b) (n : Nat) : 0 < b ^ n := Int.pow_pos (by omega)
theorem powP_can {b : Int} (hb : 2 ≤ b) (e : Int) : Can (powP b e) := by
  unfold powP
  split
  · exact ⟨by show (0 : Int) < 1; decide, Int.gcd_one_right ..⟩
  · exact ⟨powI_pos hb _, Int.gcd_one_left ..⟩
theorem can_int (c : Int) : Can (c, 1) := ⟨by show (0 : Int) < 1; decide, Int.gcd_one_right ..⟩
theorem wo_int (c : Int) : wo (c, 1) = (c : Rat) := by
  unfold wo
  show (c : Rat) / ((1 : Int) : Rat) = c
  have : ((1 : Int) : Rat) = 1 := rfl
  rw [this]
  grind
theorem can_neg {p : P2} (h : Can p) : Can (-p.1, p.2) := ⟨h.pos, by show Int.gcd (-p.1) p.2 = 1; rw [Int.neg_gcd]; exact h.cop⟩
theorem wo_neg (p : P2) : wo (-p.1, p.2) = -wo p := by
  unfold wo
  show ((-p.1 : Int) : Rat) / (p.2 : Rat) = -((p.1 : Rat) / (p.2 : Rat))
  rw [Rat.div_def, Rat.div_def]
  push_cast
  rw [Rat.neg_mul]
theorem wv_can {b : Int} (hb : 2 ≤ b) (s c e : Int) : Can (wv b s c e) := by
  unfold wv
  split
  · exact can_neg (can_mul (can_int c) (powP_can hb e))
  · exact can_mul (can_int c) (powP_can hb e)
def sg (s : Int) : Int := if s = 1 then -1 else 1
theorem wo_wv {b : Int} (hb : 2 ≤ b) (s c e : Int) : wo (wv b s c e) = ((sg s * c : Int) : Rat) * bp b e := by
  unfold wv sg
  split
  · rw [wo_neg, wo_mul (can_int c) (powP_can hb e), wo_int]
    unfold bp
    push_cast
    grind
  · rw [wo_mul (can_int c) (powP_can hb e), wo_int]
    unfold bp
    push_cast
    grind
theorem bp_pos {b : Int} (hb : 2 ≤ b) (e : Int) : 0 < bp b e := by
  have h := powP_can hb e
  have h1 : 0 < (powP b e).1 := by
    unfold powP
    split
    · exact powI_pos hb _
    · show (0 : Int) < 1
      decide
  have h2 := h.pos
  unfold bp wo
  rw [Rat.div_def]
  exact Rat.mul_pos (by exact_mod_cast h1) (Rat.inv_pos.mpr (by exact_mod_cast h2))
theorem bp_nat (b : Int) (n : Nat) : bp b n = ((b ^ n : Int) : Rat) := by
  unfold bp powP
  rw [if_pos (by omega), wo_int, Int.toNat_natCast]
theorem bp_negn (b : Int) (n : Nat) : bp b (-(n : Int)) = (((b ^ n : Int) : Rat))⁻¹ := by
  unfold bp powP
  split
  · have : n = 0 := by omega
    subst this
    rw [wo_int]
    simp
    grind
  · unfold wo
    rw [Rat.div_def]
    simp
theorem bp_one {b : Int} (hb : 2 ≤ b) (e : Int) : bp b (e + 1) = (b : Rat) * bp b e := by
  have hb0 : (b : Rat) ≠ 0 := by
    intro h
    have : b = 0 := by exact_mod_cast h
    omega
  rcases Int.le_total 0 e with h | h
  · obtain ⟨n, rfl⟩ := Int.eq_ofNat_of_zero_le h
    rw [show (n : Int) + 1 = ((n + 1 : Nat) : Int) by omega, bp_nat, bp_nat, Int.pow_succ]
    push_cast
    grind
  · obtain ⟨n, rfl⟩ : ∃ n : Nat, e = -(n : Int) := ⟨(-e).toNat, by omega⟩
    cases n with
    | zero =>
      rw [show -((0 : Nat) : Int) + 1 = ((1 : Nat) : Int) by omega, show -((0 : Nat) : Int) = ((0 : Nat) : Int) by omega, bp_nat, bp_nat]
      simp
    | succ n =>
      rw [show -((n + 1 : Nat) : Int) + 1 = -(n : Int) by omega, bp_negn, bp_negn, Int.pow_succ]
      have h2 : ((b ^ n : Int) : Rat) ≠ 0 := by
        intro h
        have h' : b ^ n = 0 := by exact_mod_cast h
        have := powI_pos hb n
        omega
      push_cast at h2 ⊢
      grind
theorem bp_up {b : Int} (hb : 2 ≤ b) (e : Int) (n : Nat) : bp b (e + n) = ((b ^ n : Int) : Rat) * bp b e := by
  induction n with
  | zero => simp
  | succ n ih =>
    rw [show e + ((n + 1 : Nat) : Int) = (e + n) + 1 by omega, bp_one hb, ih, Int.pow_succ]
    push_cast
    grind
/-- one is below the other -/
theorem below_iff {p q : P2} (hp : Can p) (hq : Can q) : p.1 * q.2 < q.1 * p.2 ↔ wo p < wo q := by
  have a : (0 : Rat) < p.2 := by exact_mod_cast hp.pos
  have b : (0 : Rat) < q.2 := by exact_mod_cast hq.pos
  have e : wo q * (p.2 : Rat) = ((q.1 : Rat) * p.2) / q.2 := by
    unfold wo
    rw [Rat.div_def, Rat.div_def]
    grind
  unfold wo at e ⊢
  rw [Rat.div_lt_iff a, e, Rat.lt_div_iff b]
  constructor
  · intro h
    exact_mod_cast h
  · intro h
    exact_mod_cast h
/-! ### the same format -/
/-- worth over the least unit -/
def Fm.S (f : Fm) (c e : Int) : Int := c * f.b ^ (e - f.lo).toNat
def Fm.M (f : Fm) (c e : Int) : Int := (e - f.lo) * f.W + c
theorem wo_S {f : Fm} (hf : FmOk f) {s c e : Int} (h : NumOk f s c e) : wo (wv f.b s c e) = ((sg s * f.S c e : Int) : Rat) * bp f.b f.lo := by
  have h1 := h.e1
  rw [wo_wv hf.b2]
  obtain ⟨n, rfl⟩ : ∃ n : Nat, e = f.lo + n := ⟨(e - f.lo).toNat, by omega⟩
  rw [bp_up hf.b2]
  unfold Fm.S
  rw [show (f.lo + (n : Int) - f.lo).toNat = n by omega]
  push_cast
  grind
/-- by places: the exponent first -/
theorem M_lt {f : Fm} (hf : FmOk f) {s c e s' c' e' : Int} (h : NumOk f s c e) (h' : NumOk f s' c' e') : (e < e' → f.M c e < f.M c' e') ∧ (e = e' → (f.M c e < f.M c' e' ↔ c < c')) := by
  unfold Fm.M
  refine ⟨fun he => ?_, fun he => by subst he; omega⟩
  have hw := hf.W_pos
  have tf := hf.TF
  have h1 := h.c1
  have h2 := h'.c2
  have h3 := h.e1
  have : (e - f.lo + 1) * f.W ≤ (e' - f.lo) * f.W := Int.mul_le_mul_of_nonneg_right (by omega) (by omega)
  rw [Int.add_mul] at this
  have hc' : f.F ≤ c' := by rcases h2 with h2 | h2; omega; exact h2
  have hc : c < f.T := h1
  omega
theorem S_lt {f : Fm} (hf : FmOk f) {s c e s' c' e' : Int} (h : NumOk f s c e) (h' : NumOk f s' c' e') : (e < e' → f.S c e < f.S c' e') ∧ (e = e' → (f.S c e < f.S c' e' ↔ c < c')) := by
  unfold Fm.S
  refine ⟨fun he => ?_, fun he => ?_⟩
  · have h1 := h.c1
    have h2 := h'.c2
    have h3 := h.e1
    have hc' : f.F ≤ c' := by rcases h2 with h2 | h2; omega; exact h2
    have hc : c < f.T := h1
    obtain ⟨n, hn⟩ : ∃ n : Nat, (e - f.lo).toNat = n := ⟨_, rfl⟩
    obtain ⟨m, hm⟩ : ∃ m : Nat, (e' - f.lo).toNat = n + 1 + m := ⟨(e' - e - 1).toNat, by omega⟩
    rw [hn, hm]
    have p1 := powI_pos hf.b2 n
    have p2 := powI_pos hf.b2 m
    have t := hf.T_eq
    have f0 := hf.F_pos
    have a1 : c * f.b ^ n < f.T * f.b ^ n := Int.mul_lt_mul_of_pos_right hc p1
    have a2 : f.F * f.b ^ (n + 1) ≤ f.F * f.b ^ (n + 1 + m) := by
      refine Int.mul_le_mul_of_nonneg_left ?_ (by omega)
      have e : f.b ^ (n + 1 + m) = f.b ^ (n + 1) * f.b ^ m := Int.pow_add ..
      have := Int.mul_le_mul_of_nonneg_left (show (1 : Int) ≤ f.b ^ m by omega) (show (0 : Int) ≤ f.b ^ (n + 1) by have := powI_pos hf.b2 (n + 1); omega)
      rw [e]
      exact Int.le_trans (Int.le_of_eq (Int.mul_one _).symm) this
    have a3 : f.F * f.b ^ (n + 1 + m) ≤ c' * f.b ^ (n + 1 + m) := Int.mul_le_mul_of_nonneg_right hc' (by have := powI_pos hf.b2 (n + 1 + m); omega)
    have a4 : f.T * f.b ^ n = f.F * f.b ^ (n + 1) := by rw [t, Int.pow_succ]; grind
    exact Int.lt_of_lt_of_le a1 (a4 ▸ Int.le_trans a2 a3)
  · subst he
    have p1 := powI_pos hf.b2 (e - f.lo).toNat
    constructor
    · intro q
      exact Int.lt_of_mul_lt_mul_right q (by omega)
    · intro q
      exact Int.mul_lt_mul_of_pos_right q p1
theorem SM_lt {f : Fm} (hf : FmOk f) {s c e s' c' e' : Int} (h : NumOk f s c e) (h' : NumOk f s' c' e') : f.S c e < f.S c' e' ↔ f.M c e < f.M c' e' := by
  have a := M_lt hf h h'
  have b := S_lt hf h h'
  have a' := M_lt hf h' h
  have b' := S_lt hf h' h
  rcases Int.lt_trichotomy e e' with q | q | q
  · have := a.1 q
    have := b.1 q
    omega
  · rw [(a.2 q), (b.2 q)]
  · have := a'.1 q
    have := b'.1 q
    omega
theorem M_nn {f : Fm} (hf : FmOk f) {s c e : Int} (h : NumOk f s c e) : 0 ≤ f.M c e := by
  unfold Fm.M
  have := Int.mul_nonneg (show 0 ≤ e - f.lo by have := h.e1; omega) (show 0 ≤ f.W by have := hf.W_pos; omega)
  have := h.c0
  omega
theorem S_nn {f : Fm} (hf : FmOk f) {s c e : Int} (h : NumOk f s c e) : 0 ≤ f.S c e := Int.mul_nonneg h.c0 (by have := powI_pos hf.b2 (e - f.lo).toNat; omega)
theorem zeroOk {f : Fm} (hf : FmOk f) : NumOk f 0 0 f.lo := ⟨.inl rfl, Int.le_refl _, hf.lh, Int.le_refl _, by have := powI_pos hf.b2 f.p.toNat; omega, .inl rfl⟩
theorem S_z {f : Fm} (hf : FmOk f) {s c e : Int} (h : NumOk f s c e) : 0 < f.S c e ↔ 0 < f.M c e := by
  have := SM_lt hf (zeroOk hf) h
  have e1 : f.S 0 f.lo = 0 := Int.zero_mul _
  have e2 : f.M 0 f.lo = 0 := by unfold Fm.M; simp
  rw [e1, e2] at this
  exact this
theorem rk_num {f : Fm} {s c e : Int} (hs : s = 0 ∨ s = 1) : rkV f (.num s c e) = sg s * f.M c e := by
  unfold rkV sg Fm.M
  rcases hs with rfl | rfl <;> simp
/-- ranks grow as worths do -/
theorem wo_rank {f : Fm} (hf : FmOk f) {s c e s' c' e' : Int} (h : NumOk f s c e) (h' : NumOk f s' c' e') : wo (wv f.b s c e) < wo (wv f.b s' c' e') ↔ rkV f (.num s c e) < rkV f (.num s' c' e') := by
  rw [wo_S hf h, wo_S hf h', rk_num h.s, rk_num h'.s, Rat.mul_lt_mul_right (bp_pos hf.b2 f.lo)]
  have key : ((sg s * f.S c e : Int) : Rat) < ((sg s' * f.S c' e' : Int) : Rat) ↔ sg s * f.S c e < sg s' * f.S c' e' := by
    constructor
    · intro q
      exact_mod_cast q
    · intro q
      exact_mod_cast q
  rw [key]
  have a := SM_lt hf h h'
  have a' := SM_lt hf h' h
  have n := S_nn hf h
  have n' := S_nn hf h'
  have m := M_nn hf h
  have m' := M_nn hf h'
  have z := S_z hf h
  have z' := S_z hf h'
  rcases h.s with rfl | rfl <;> rcases h'.s with rfl | rfl <;> simp only [sg, if_pos, if_true] <;> simp <;> omega
theorem M_top {f : Fm} (hf : FmOk f) {s c e : Int} (h : NumOk f s c e) : f.M c e < f.X := by
  unfold Fm.M Fm.X
  have h1 : c < f.T := h.c1
  have := Int.mul_le_mul_of_nonneg_right (show e - f.lo ≤ f.hi - f.lo by have := h.e2; omega) (show 0 ≤ f.W by have := hf.W_pos; omega)
  omega
theorem FmOk.bdX {f : Fm} (hf : FmOk f) : Bd 700 f.X := by
  unfold Fm.X
  have h1 := hf.l
  have h2 := hf.h
  have h3 := hf.lh
  have : Bd 12 (f.hi - f.lo) := by unfold Bd; omega
  exact ((this.mul hf.bdW).add hf.bdT).up (by decide)
theorem rk_abs {f : Fm} (hf : FmOk f) {v : Vl} (h : VlOk f v) : (rkV f v).natAbs ≤ f.X.natAbs := by
  have hx := hf.XF
  have ht := hf.TF
  have hw := hf.W_pos
  have hf0 := hf.F_pos
  cases v with
  | nan => show (0 : Int).natAbs ≤ _; omega
  | inf s => show (if s = 1 then -f.X else f.X).natAbs ≤ _; split <;> omega
  | num s c e =>
    have hn : NumOk f s c e := h
    rw [rk_num hn.s]
    have := M_nn hf hn
    have := M_top hf hn
    rcases hn.s with rfl | rfl <;> simp [sg] <;> omega
theorem FmOk.bdR {f : Fm} (hf : FmOk f) {v : Vl} (h : VlOk f v) : Bd 700 (rkV f v) := hf.bdX.of_natAbs (rk_abs hf h)
/-! ### the next ones, the order -/
/-- the same as atV, never unfolded -/
@[irreducible] def atW (f : Fm) (r : Int) : Option Vl := atV f r
theorem atW_eq (f : Fm) (r : Int) : atV f r = atW f r := by unfold atW; rfl
def sgV : Vl → Int
  | .num s _ _ => s
  | .inf s => s
  | .nan => 0
def fixV (s lo : Int) : Vl → Vl
  | .num s' c' e' => if c' = 0 then .num s 0 lo else .num s' c' e'
  | w => w
def stepV (f : Fm) (v : Vl) (k : Int) : Vl :=
  match v with
  | .nan => .nan
  | v => match atV f (rkV f v + k) with
    | none => v
    | some w => fixV (sgV v) f.lo w
def plI : Vl → Int
  | .inf s => 1 - 2 * s
  | _ => 0
def cmpI (a b : Prop) [Decidable a] [Decidable b] : Int := (if a then 1 else 0) - (if b then 1 else 0)
def cmpP (p q : P2) : Int := cmpI (q.1 * p.2 < p.1 * q.2) (p.1 * q.2 < q.1 * p.2)
def ordD (b : Int) (x : Vl) (b' : Int) (y : Vl) : D :=
  match x, y with
  | .nan, _ => .none
  | _, .nan => .none
  | .num s c e, .num s' c' e' => .int (cmpP (wv b s c e) (wv b' s' c' e'))
  | x, y => .int (cmpI (plI y < plI x) (plI x < plI y))
theorem cmpI_eq {a b a' b' : Prop} [Decidable a] [Decidable b] [Decidable a'] [Decidable b'] (h : a ↔ a') (h' : b ↔ b') : cmpI a b = cmpI a' b' := by
  unfold cmpI
  by_cases x : a <;> by_cases y : b <;> simp [h.symm, h'.symm, x, y]
/-- of one format the order is that of the ranks -/
theorem ord_rank {f : Fm} (hf : FmOk f) {x y : Vl} (hx : VlOk f x) (hy : VlOk f y) (nx : notNan x) (ny : notNan y) : ordD f.b x f.b y = .int (cmpI (rkV f y < rkV f x) (rkV f x < rkV f y)) := by
  have F0 := hf.F_pos
  have TF := hf.TF
  have W0 := hf.W_pos
  have XF := hf.XF
  have lt : ∀ {s c e : Int}, NumOk f s c e → -f.X < rkV f (.num s c e) ∧ rkV f (.num s c e) < f.X := fun {s c e} h => by
    rw [rk_num h.s]
    have := M_nn hf h
    have := M_top hf h
    rcases h.s with rfl | rfl <;> simp [sg] <;> omega
  cases x with
  | nan => exact nx.elim
  | num s c e =>
    cases y with
    | nan => exact ny.elim
    | num s' c' e' =>
      have h1 := wv_can hf.b2 s c e
      have h2 := wv_can hf.b2 s' c' e'
      show PyData.int (cmpP _ _) = _
      unfold cmpP
      rw [cmpI_eq ((below_iff h2 h1).trans (wo_rank hf hy hx)) ((below_iff h1 h2).trans (wo_rank hf hx hy))]
    | inf s' =>
      have := lt hx
      show PyData.int (cmpI _ _) = _
      have hy : s' = 0 ∨ s' = 1 := hy
      congr 1
      generalize rkV f (.num s c e) = r at this ⊢
      refine cmpI_eq ?_ ?_ <;> rcases hy with rfl | rfl <;> simp [plI, rkV] <;> omega
  | inf s =>
    have hx : s = 0 ∨ s = 1 := hx
    cases y with
    | nan => exact ny.elim
    | num s' c' e' =>
      have := lt hy
      show PyData.int (cmpI _ _) = _
      congr 1
      generalize rkV f (.num s' c' e') = r at this ⊢
      refine cmpI_eq ?_ ?_ <;> rcases hx with rfl | rfl <;> simp [plI, rkV] <;> omega
    | inf s' =>
      have hy : s' = 0 ∨ s' = 1 := hy
      show PyData.int (cmpI _ _) = _
      congr 1
      refine cmpI_eq ?_ ?_ <;> rcases hx with rfl | rfl <;> rcases hy with rfl | rfl <;> simp [plI, rkV] <;> omega
/-- the value with the rank of a value -/
theorem atV_rk {f : Fm} (hf : FmOk f) {v : Vl} (h : VlOk f v) (hn : notNan v) : atV f (rkV f v) = some (if rkV f v = 0 then .num 0 0 f.lo else v) := by
  have F0 := hf.F2
  have TF := hf.TF
  have W0 := hf.W_pos
  have XF := hf.XF
  cases v with
  | nan => exact hn.elim
  | inf s =>
    have hs : s = 0 ∨ s = 1 := h
    have e : rkV f (.inf s) = sg s * f.X := by
      unfold rkV sg
      rcases hs with rfl | rfl <;> simp
    rw [e]
    rcases hs with rfl | rfl
    · rw [atV_most hf (by simp [sg]; omega), if_pos (by simp [sg]; omega), if_neg (by simp [sg]; omega)]
      simp [sgn, sg]
      omega
    · rw [atV_most hf (by simp [sg]; omega), if_pos (by simp [sg]; omega), if_neg (by simp [sg]; omega)]
      simp [sgn, sg]
      omega
  | num s c e =>
    have hn : NumOk f s c e := h
    have m0 := M_nn hf hn
    have m1 := M_top hf hn
    have hs := hn.s
    have he := hn.e1
    have c0 := hn.c0
    have c1 : c < f.T := hn.c1
    rw [rk_num hs]
    have na : ((sg s * f.M c e).natAbs : Int) = f.M c e := by
      rcases hs with rfl | rfl <;> simp [sg] <;> omega
    have sn : 0 < f.M c e → sgn (sg s * f.M c e) = s := fun q => by
      rcases hs with rfl | rfl <;> simp [sg, sgn] <;> omega
    have z0 : sg s * f.M c e = 0 ↔ f.M c e = 0 := by
      rcases hs with rfl | rfl <;> simp [sg] <;> omega
    by_cases hF : f.M c e < f.F
    · -- the least place
      have el : e = f.lo := by
        rcases hn.c2 with q | q
        · exact q
        · apply Classical.byContradiction
          intro ne
          have : 1 * f.W ≤ (e - f.lo) * f.W := Int.mul_le_mul_of_nonneg_right (by omega) (by omega)
          have q : f.F ≤ c := q
          unfold Fm.M at hF
          omega
      subst el
      have hM : f.M c f.lo = c := by unfold Fm.M; simp
      rw [atV_lo (by rw [na]; exact hF), na]
      by_cases h0 : f.M c f.lo = 0
      · rw [if_pos (z0.mpr h0), h0]
        simp [sgn, h0]
      · rw [if_neg (fun q => h0 (z0.mp q)), sn (by omega), hM]
    · have hq : (f.M c e - f.F).fdiv f.W = e - f.lo := by
        rcases hn.c2 with q | q
        · refine fdiv_of (r := c - f.F) (by omega) ?_ ?_ ?_
          · unfold Fm.M
            omega
          · unfold Fm.M at hF
            rw [q] at hF
            simp at hF
            omega
          · omega
        · have q : f.F ≤ c := q
          exact fdiv_of (r := c - f.F) (by omega) (by unfold Fm.M; omega) (by omega) (by omega)
      have e2 := hn.e2
      rw [atV_mid (by rw [na]; omega) (by rw [na, hq]; omega), na, hq, sn (by omega), if_neg (fun q => by have := z0.mp q; omega)]
      unfold Fm.M
      congr 2 <;> omega
/-- a rank within has its value -/
theorem rk_at {f : Fm} (hf : FmOk f) {r : Int} (h : (r.natAbs : Int) ≤ f.X) : ∃ v, atV f r = some v ∧ VlOk f v ∧ notNan v ∧ rkV f v = r := by
  have F0 := hf.F2
  have TF := hf.TF
  have W0 := hf.W_pos
  have XF := hf.XF
  have T0 := hf.lh
  have hs : sgn r = 0 ∨ sgn r = 1 := by unfold sgn; split <;> simp
  have sr : sg (sgn r) * (r.natAbs : Int) = r := by
    unfold sgn sg
    split <;> simp <;> omega
  by_cases hF : (r.natAbs : Int) < f.F
  · refine ⟨_, atV_lo hF, ⟨hs, Int.le_refl _, T0, by omega, ?_, .inl rfl⟩, trivial, ?_⟩
    · show (r.natAbs : Int) < f.T
      omega
    · rw [rk_num hs]
      unfold Fm.M
      simp only [Int.sub_self, Int.zero_mul, Int.zero_add]
      exact sr
  · obtain ⟨q, z, a, b, c, d, q0⟩ := hf.steps (m := r.natAbs) (by omega)
    have ho := hf.over b c d
    by_cases hX : (r.natAbs : Int) < f.X
    · have hq := ho.mpr hX
      refine ⟨_, atV_mid (by omega) (by rw [a]; exact hq), ?_, trivial, ?_⟩
      · rw [a]
        refine ⟨hs, by omega, by omega, by omega, ?_, .inr ?_⟩
        · show (r.natAbs : Int) - q * f.W < f.T
          omega
        · show f.F ≤ (r.natAbs : Int) - q * f.W
          omega
      · rw [a, rk_num hs]
        unfold Fm.M
        rw [show f.lo + q - f.lo = q by omega, show q * f.W + ((r.natAbs : Int) - q * f.W) = r.natAbs by omega]
        exact sr
    · refine ⟨.inf (sgn r), ?_, hs, trivial, ?_⟩
      · rw [atV_most hf (by omega), if_pos (by omega)]
      · unfold rkV
        unfold sgn
        split <;> simp_all <;> omega
def nanD : D := .tuple [.str "nan"]
def isNan : Vl → Bool
  | .nan => true
  | _ => false
def isInf (k : Int) : Vl → Bool
  | .inf s => decide (s = k)
  | _ => false
theorem nan_eqv (v : Vl) : PyData.eqv (vlD v) (.tuple [.str "nan"]) = isNan v := by
  cases v <;> simp [vlD, isNan, PyData.eqv, PyData.eqvAll]
theorem inf_eqv (v : Vl) (k : Int) : PyData.eqv (vlD v) (.tuple [.str "inf", .int k]) = isInf k v := by
  cases v <;> simp [vlD, isInf, PyData.eqv, PyData.eqvAll, Bool.beq_eq_decide_eq]
theorem shp_vl (v : Vl) : Shp (vlD v) := by
  cases v <;> exact Bool.and_eq_true_iff.mpr ⟨by simp [vlD, PyData.canLay0, PyData.canLayAll0]; decide +kernel, by simp [vlD, PyData.depth, PyData.depthAll]⟩
theorem fit_vl {f : Fm} (hf : FmOk f) {v : Vl} (h : VlOk f v) : Fit 2 18000 (vlD v) := by
  have st : ∀ s : Str, s ∈ [("num" : Str), "inf", "nan"] → Fit 1 4310 (.str s) := fun s hs => by
    simp only [List.mem_cons, List.not_mem_nil, or_false] at hs
    rcases hs with rfl | rfl | rfl <;> exact ⟨by decide +kernel, by decide +kernel, by decide +kernel, by decide +kernel⟩
  have sb : ∀ s : Int, s = 0 ∨ s = 1 → Fit 1 4310 (.int s) := fun s hs => (Fit.bd (Bd.lit64 s (by omega)) (by decide)).up (by decide) (by decide)
  cases v with
  | nan => exact (Fit.tup (all_cons (st "nan" (by simp)) all_nil)).up (by decide) (by simp)
  | inf s => exact (Fit.tup (all_cons (st "inf" (by simp)) (all_cons (sb s h) all_nil))).up (by decide) (by simp)
  | num s c e =>
    have hn : NumOk f s c e := h
    have h1 : c < f.T := hn.c1
    have h0 := hn.c0
    have h2 := hn.e1
    have h3 := hn.e2
    have h4 := hf.l
    have h5 := hf.h
    have bc : Bd 640 c := hf.bdT.of_natAbs (by omega)
    refine (Fit.tup (all_cons (st "num" (by simp)) (all_cons (sb s hn.s) (all_cons ((Fit.bd bc (by decide)).up (k' := 1) (w' := 4310) (by decide) (by decide)) (all_cons ((Fit.bd (Bd.lit64 e (by omega)) (by decide)).up (k' := 1) (w' := 4310) (by decide) (by decide)) all_nil))))).up (by decide) (by simp)
/-- a format four exponents wider -/
def Fm.w4 (f : Fm) : Fm := ⟨f.b, f.p, f.lo, f.hi + 4⟩
/-- small formats -/
def smsB (ds : List D) : Bool := fmsB ds && ds.all fun d => match fmOf d with
  | some f => decide (f.X ≤ 1000) && (fmB f.w4 && decide (f.w4.X ≤ 1000))
  | none => false
theorem smsB_of {ds : List D} (h : smsB ds = true) {d : D} (hd : d ∈ ds) : ∃ f, d = fmD f ∧ FmOk f ∧ f.X ≤ 1000 ∧ FmOk f.w4 ∧ f.w4.X ≤ 1000 := by
  obtain ⟨h1, h2⟩ := Bool.and_eq_true_iff.mp h
  obtain ⟨f, rfl, hf⟩ := fmsB_of h1 hd
  have q := List.all_eq_true.mp h2 _ hd
  obtain ⟨a, b⟩ := Bool.and_eq_true_iff.mp q
  obtain ⟨b, c⟩ := Bool.and_eq_true_iff.mp b
  exact ⟨f, rfl, hf, of_decide_eq_true a, fmOk_of b, of_decide_eq_true c⟩
/-- a list of numbers by their places -/
def NumsAt (f : Fm) (ys : List D) : Prop := ∀ (i : Nat) (y : D), ys[i]? = some y → ∃ c e, y = vlD (.num 0 c e) ∧ NumOk f 0 c e ∧ f.M c e = i
theorem NumsAt.more {f : Fm} {ys zs : List D} (h : NumsAt f ys) (h' : ∀ (i : Nat) (y : D), zs[i]? = some y → ∃ c e, y = vlD (.num 0 c e) ∧ NumOk f 0 c e ∧ f.M c e = (ys.length + i : Nat)) : NumsAt f (ys ++ zs) := fun i y q => by
  rw [List.getElem?_append] at q
  split at q
  · exact h i y q
  · obtain ⟨c, e, a, b, d⟩ := h' _ y q
    exact ⟨c, e, a, b, by rw [d]; congr 1; omega⟩
theorem upto_get {a : Int} {n i : Nat} {y : D} (h : (upto a n)[i]? = some y) : i < n ∧ y = .int (a + i) := by
  unfold upto at h
  rw [List.getElem?_map] at h
  by_cases hi : i < n
  · rw [List.getElem?_range hi] at h
    exact ⟨hi, (Option.some.inj h).symm⟩
  · rw [List.getElem?_eq_none (by simp; omega)] at h
    cases h
theorem upto_len (a : Int) (n : Nat) : (upto a n).length = n := by simp [upto]
def numI (e : Int) : D → D
  | .int i => vlD (.num 0 i e)
  | d => d
theorem upto_mem {a : Int} {n : Nat} {x : D} (h : x ∈ upto a n) : ∃ i : Nat, i < n ∧ x = .int (a + i) := by
  unfold upto at h
  obtain ⟨i, hi, rfl⟩ := List.mem_map.mp h
  exact ⟨i, List.mem_range.mp hi, rfl⟩
/-- the numbers of one place -/
theorem nums_row {f : Fm} (hf : FmOk f) {a e : Int} {n : Nat} (h0 : 0 ≤ a) (h1 : a + n ≤ f.T) (h2 : e = f.lo ∨ f.F ≤ a) (e1 : f.lo ≤ e) (e2 : e ≤ f.hi) {i : Nat} {y : D} (h : ((upto a n).map (numI e))[i]? = some y) : ∃ c e', y = vlD (.num 0 c e') ∧ NumOk f 0 c e' ∧ f.M c e' = (e - f.lo) * f.W + a + i := by
  rw [List.getElem?_map] at h
  cases q : (upto a n)[i]? with
  | none => rw [q] at h; cases h
  | some z =>
    rw [q] at h
    obtain ⟨hi, rfl⟩ := upto_get q
    refine ⟨a + i, e, (Option.some.inj h).symm, ⟨.inl rfl, e1, e2, by omega, ?_, ?_⟩, by unfold Fm.M; omega⟩
    · show a + i < f.T
      omega
    · rcases h2 with h2 | h2
      · exact .inl h2
      · exact .inr (show f.F ≤ a + i by omega)
theorem Bd.powP {b e : Int} (h1 : 2 ≤ b) (h2 : b ≤ 36) (h3 : e.natAbs ≤ 1320) : Bd 7930 (powP b e).1 ∧ Bd 7930 (powP b e).2 := by
  have bb : Bd 6 b := by unfold Bd; omega
  have one : Bd 7930 (1 : Int) := (Bd.lit64 1 (by omega)).up (by decide)
  unfold VI.powP
  split
  · exact ⟨(bb.pow _).up (by omega), one⟩
  · exact ⟨one, (bb.pow _).up (by omega)⟩
def PB (b e : Int) : Prop := e.natAbs ≤ 27000 ∧ Bd 7930 (powP b e).1 ∧ Bd 7930 (powP b e).2
theorem wv_bd {b s c e : Int} (h1 : 2 ≤ b) (h2 : b ≤ 36) (h3 : PB b e) (h4 : Bd 700 c) : Bd 8640 (wv b s c e).1 ∧ Bd 8640 (wv b s c e).2 := by
  obtain ⟨_, p1, p2⟩ := h3
  have one : Bd 64 (1 : Int) := Bd.lit64 1 (by omega)
  have q1 : Bd 8640 (mulP (c, 1) (powP b e)).1 := ((h4.mul p1).nrm1).up (by decide)
  have q2 : Bd 8640 (mulP (c, 1) (powP b e)).2 := ((one.mul p2).nrm2).up (by decide)
  unfold wv
  split
  · exact ⟨q1.neg, q2⟩
  · exact ⟨q1, q2⟩
theorem PB.of {b e : Int} (h1 : 2 ≤ b) (h2 : b ≤ 36) (h3 : e.natAbs ≤ 1320) : PB b e := ⟨by omega, Bd.powP h1 h2 h3⟩
theorem wv_pre {f : Fm} (hf : FmOk f) {s c e : Int} (h : NumOk f s c e) : 2 ≤ f.b ∧ f.b ≤ 36 ∧ PB f.b e ∧ Bd 700 c := by
  have h1 : c < f.T := h.c1
  have h0 := h.c0
  have h2 := h.e1
  have h3 := h.e2
  have h4 := hf.l
  have h5 := hf.h
  exact ⟨hf.b2, hf.b36, PB.of hf.b2 hf.b36 (by omega), (hf.bdT.of_natAbs (by omega)).up (by decide)⟩
/-! ### shapes -/
structure Sh (k : Nat) (d : D) : Prop where
  lay : d.canLay0 = true
  dep : d.depth ≤ k
theorem Sh.up {k l : Nat} {d : D} (h : Sh k d) (e : k ≤ l) : Sh l d := ⟨h.lay, Nat.le_trans h.dep e⟩
theorem Sh.shp {k : Nat} {d : D} (h : Sh k d) (e : k ≤ 64) : Shp d := Bool.and_eq_true_iff.mpr ⟨h.lay, decide_eq_true (Nat.le_trans h.dep e)⟩
theorem Sh.int {k : Nat} {i : Int} : Sh k (.int i) := ⟨by simp [PyData.canLay0], by simp [PyData.depth]⟩
theorem Sh.bool {k : Nat} {i : Bool} : Sh k (.bool i) := ⟨by simp [PyData.canLay0], by simp [PyData.depth]⟩
theorem Sh.none {k : Nat} : Sh k .none := ⟨by simp [PyData.canLay0], by simp [PyData.depth]⟩
theorem Sh.str {k : Nat} {s : Str} (h : PyData.strOk s = true) : Sh k (.str s) := ⟨by simp [PyData.canLay0, h], by simp [PyData.depth]⟩
theorem all_sh {k : Nat} : ∀ {ds : List D}, (∀ d ∈ ds, Sh k d) → PyData.canLayAll0 ds = true ∧ PyData.depthAll ds ≤ k
  | [], _ => ⟨by simp [PyData.canLayAll0], by simp [PyData.depthAll]⟩
  | d :: ds, h => by
    obtain ⟨a, b⟩ := all_sh (ds := ds) fun x hx => h x (List.mem_cons_of_mem _ hx)
    have c := h d List.mem_cons_self
    refine ⟨?_, ?_⟩
    · simp [PyData.canLayAll0, a, c.lay]
    · have := c.dep
      simp [PyData.depthAll]
      omega
theorem Sh.tup {k : Nat} {ds : List D} (h : ∀ d ∈ ds, Sh k d) : Sh (k + 1) (.tuple ds) := by
  obtain ⟨a, b⟩ := all_sh h
  exact ⟨by simp [PyData.canLay0, a], by simp [PyData.depth]; omega⟩
theorem Sh.lst {k : Nat} {ds : List D} (h : ∀ d ∈ ds, Sh k d) : Sh (k + 1) (.list ds) := by
  obtain ⟨a, b⟩ := all_sh h
  exact ⟨by simp [PyData.canLay0, a], by simp [PyData.depth]; omega⟩
theorem Sh.vl {k : Nat} {v : Vl} : Sh (k + 1) (vlD v) := by
  cases v with
  | nan => exact .tup (all_cons (.str (by decide +kernel)) all_nil)
  | inf s => exact .tup (all_cons (.str (by decide +kernel)) (all_cons .int all_nil))
  | num s c e => exact .tup (all_cons (.str (by decide +kernel)) (all_cons .int (all_cons .int (all_cons .int all_nil))))
theorem Sh.fm {k : Nat} {f : Fm} : Sh (k + 1) (fmD f) := .tup (all_cons .int (all_cons .int (all_cons .int (all_cons .int all_nil))))
theorem Sh.dF {k : Nat} {p : P2} : Sh (k + 1) (dF p) := .tup (all_cons .int (all_cons .int all_nil))
theorem shp6 {d : D} (h : Sh 6 d) : Shp d := h.shp (by decide)
/-- beyond the last one -/
theorem atW_over {f : Fm} (hf : FmOk f) {s k : Int} (hk : k = 1 ∨ k = -1) (hs : s = if k < 0 then 1 else 0) : atW f (rkV f (.inf s) + k) = none := by
  have XF := hf.XF
  have TF := hf.TF
  have F0 := hf.F_pos
  have W0 := hf.W_pos
  rw [← atW_eq, atV_most hf, if_neg]
  · rcases hk with rfl | rfl <;> subst hs <;> simp [rkV] <;> omega
  · rcases hk with rfl | rfl <;> subst hs <;> simp [rkV] <;> omega
theorem rk_lt {f : Fm} (hf : FmOk f) {s c e : Int} (h : NumOk f s c e) : -f.X < rkV f (.num s c e) ∧ rkV f (.num s c e) < f.X := by
  rw [rk_num h.s]
  have := M_nn hf h
  have := M_top hf h
  have XF := hf.XF
  have TF := hf.TF
  have F0 := hf.F_pos
  have W0 := hf.W_pos
  rcases h.s with q | q <;> rw [q] <;> simp [sg] <;> omega
theorem atW_num {f : Fm} (hf : FmOk f) {s c e k : Int} (hk : k = 1 ∨ k = -1) (h : NumOk f s c e) : ∃ w, atW f (rkV f (.num s c e) + k) = some w ∧ VlOk f w ∧ notNan w ∧ rkV f w = rkV f (.num s c e) + k := by
  have := rk_lt hf h
  have XF := hf.XF
  obtain ⟨w, a, b, c, d⟩ := rk_at hf (r := rkV f (.num s c e) + k) (by omega)
  exact ⟨w, by rw [← atW_eq]; exact a, b, c, d⟩
theorem atW_inf {f : Fm} (hf : FmOk f) {s k : Int} (hk : k = 1 ∨ k = -1) (h : s = 0 ∨ s = 1) (hs : ¬ s = if k < 0 then 1 else 0) : ∃ w, atW f (rkV f (.inf s) + k) = some w ∧ VlOk f w ∧ notNan w ∧ rkV f w = rkV f (.inf s) + k := by
  have XF := hf.XF
  have TF := hf.TF
  have F0 := hf.F_pos
  have W0 := hf.W_pos
  obtain ⟨w, a, b, c, d⟩ := rk_at hf (r := rkV f (.inf s) + k) (by rcases hk with rfl | rfl <;> rcases h with rfl | rfl <;> simp [rkV] at * <;> omega)
  exact ⟨w, by rw [← atW_eq]; exact a, b, c, d⟩
theorem fix_ok {f : Fm} (hf : FmOk f) {s : Int} {w : Vl} (hs : s = 0 ∨ s = 1) (hw : VlOk f w) (nw : notNan w) : VlOk f (fixV s f.lo w) ∧ notNan (fixV s f.lo w) ∧ rkV f (fixV s f.lo w) = rkV f w := by
  cases w with
  | nan => exact nw.elim
  | inf s => exact ⟨hw, trivial, rfl⟩
  | num s' c e =>
    have ef : fixV s f.lo (.num s' c e) = if c = 0 then .num s 0 f.lo else .num s' c e := rfl
    rw [ef]
    split
    · rename_i hc
      subst hc
      have hn : NumOk f s' 0 e := hw
      have el : e = f.lo := by
        rcases hn.c2 with q | q
        · exact q
        · have q : f.F ≤ 0 := q
          have := hf.F_pos
          omega
      refine ⟨⟨hs, Int.le_refl _, hf.lh, Int.le_refl _, by have := powI_pos hf.b2 f.p.toNat; omega, .inl rfl⟩, trivial, ?_⟩
      subst el
      simp [rkV]
    · exact ⟨hw, trivial, rfl⟩
/-- the next one: of the format, its rank beside, or the same at the end -/
theorem step_ok {f : Fm} (hf : FmOk f) {v : Vl} {k : Int} (hv : VlOk f v) (nv : notNan v) (hk : k = 1 ∨ k = -1) : VlOk f (stepV f v k) ∧ notNan (stepV f v k) ∧ (rkV f (stepV f v k) = rkV f v + k ∨ rkV f (stepV f v k) = rkV f v) := by
  cases v with
  | nan => exact nv.elim
  | num s c e =>
    obtain ⟨w, a, b, c', d⟩ := atW_num hf hk hv
    have hn : NumOk f s c e := hv
    obtain ⟨x, y, z⟩ := fix_ok hf hn.s b c'
    have e1 : stepV f (.num s c e) k = fixV s f.lo w := by simp only [stepV, atW_eq, a, sgV]
    rw [e1]
    exact ⟨x, y, .inl (z.trans d)⟩
  | inf s =>
    by_cases hs : s = if k < 0 then 1 else 0
    · have e1 : stepV f (.inf s) k = .inf s := by simp only [stepV, atW_eq, atW_over hf hk hs]
      rw [e1]
      exact ⟨hv, trivial, .inr rfl⟩
    · obtain ⟨w, a, b, c', d⟩ := atW_inf hf hk hv hs
      obtain ⟨x, y, z⟩ := fix_ok hf hv b c'
      have e1 : stepV f (.inf s) k = fixV s f.lo w := by simp only [stepV, atW_eq, a, sgV]
      rw [e1]
      exact ⟨x, y, .inl (z.trans d)⟩
end VI

/-! PL6: loops ahead of their run. -/
namespace VI
open PySem
theorem fr_inv {tb : Tb} (ht : tb.Mono) {t it : IE} {b rest : IS} {K : KS} {env0 : En} {st0 : Sto} (xs : List D) (P : Nat → En → Sto → Prop)
    (hit : ∀ Q : List D → Sto → Prop, Q xs st0 → (sem tb it).i env0 st0 Q)
    (step : ∀ i x env st, xs[i]? = some x → P i env st → (sem tb t).a (.d x) env fun env' => semS tb b env' st { nx := P (i + 1), rt := K.rt, bk := fun env st => semS tb rest env st K, ct := P (i + 1) })
    (done : ∀ env st, P xs.length env st → semS tb rest env st K) (h0 : P 0 env0 st0) : semS tb (.seq (.fr t it b) rest) env0 st0 K := by
  show (sem tb it).i env0 st0 fun xs st => loopF (sem tb t).a (semS tb b) xs env0 st { K with nx := fun env st => semS tb rest env st K }
  exact hit _ (loopF_inv ht (K := { K with nx := fun env st => semS tb rest env st K }) P step done h0)
theorem cut_mem {α : Type} {xs : List α} {lo hi : Option Int} {x : α} (h : x ∈ cutD xs lo hi) : x ∈ xs := by
  unfold cutD at h
  exact List.mem_of_mem_drop (List.mem_of_mem_take h)
theorem atW_rep {f : Fm} (hf : FmOk f) (r : Int) : RepOk (oD (atW f r)) := by
  rw [← atW_eq]
  by_cases h : (r.natAbs : Int) ≤ f.X
  · obtain ⟨v, e, hv, _, _⟩ := rk_at hf h
    rw [e]
    exact (fit_vl hf hv).rep (by decide) (by decide)
  · rw [atV_most hf (by omega), if_neg (by omega)]
    exact Fit.none.rep (by decide) (by decide)
theorem fr_post {tb : Tb} (ht : tb.Mono) {t it : IE} {b rest : IS} {K : KS} {env0 : En} {st0 : Sto}
    (h : (sem tb it).i env0 st0 fun xs st1 => ∃ P : Nat → En → Sto → Prop,
      (∀ i x env st, xs[i]? = some x → P i env st → (sem tb t).a (.d x) env fun env' => semS tb b env' st { nx := P (i + 1), rt := K.rt, bk := fun env st => semS tb rest env st K, ct := P (i + 1) }) ∧
      (∀ env st, P xs.length env st → semS tb rest env st K) ∧ P 0 env0 st1) : semS tb (.seq (.fr t it b) rest) env0 st0 K := by
  show (sem tb it).i env0 st0 fun xs st => loopF (sem tb t).a (semS tb b) xs env0 st { K with nx := fun env st => semS tb rest env st K }
  refine (sem_mono ht it).i _ _ _ _ ?_ h
  rintro xs st ⟨P, a, b, c⟩
  exact loopF_inv ht (K := { K with nx := fun env st => semS tb rest env st K }) P a b c
theorem skip_go {tb : Tb} {env : En} {st : Sto} {K : KS} (h : K.nx env st) : semS tb .skip env st K := h
theorem seq_cut {tb : Tb} (ht : tb.Mono) {a rest : IS} {env : En} {st : Sto} {K : KS} (R : En → Sto → Prop)
    (h1 : semS tb a env st { nx := R, rt := K.rt, bk := K.bk, ct := K.ct }) (h2 : ∀ env st, R env st → semS tb rest env st K) : semS tb (.seq a rest) env st K :=
  semS_mono ht a env st { nx := R, rt := K.rt, bk := K.bk, ct := K.ct } _ ⟨h2, fun _ _ q => q, fun _ _ q => q, fun _ _ q => q⟩ h1
end VI

/-! PL7: fractions with bounds, worths by powers, the grid. -/
namespace VI
open PySem
structure Fb (k : Nat) (p : P2) : Prop where
  pos : 0 < p.2
  b1 : Bd k p.1
  b2 : Bd k p.2
theorem Fb.ne {k : Nat} {p : P2} (h : Fb k p) : p.2 ≠ 0 := by have := h.pos; omega
theorem Fb.up {k l : Nat} {p : P2} (h : Fb k p) (e : k ≤ l) : Fb l p := ⟨h.pos, h.b1.up e, h.b2.up e⟩
theorem Fra.fb {k : Nat} {p : P2} (h : Fra k p) : Fb k p := ⟨h.can.pos, h.b1, h.b2⟩
theorem Fb.mul {k l : Nat} {p q : P2} (h : Fb k p) (h' : Fb l q) : Fra (k + l) (mulP p q) :=
  Fra.nrm (mul_ne h.ne h'.ne) (h.b1.mul h'.b1) (h.b2.mul h'.b2)
theorem Fb.add {k l : Nat} {p q : P2} (h : Fb k p) (h' : Fb l q) : Fra (k + l + 1) (addP p q) :=
  Fra.nrm (mul_ne h.ne h'.ne) (((h.b1.mul h'.b2).add (h'.b1.mul h.b2)).up (by omega)) ((h.b2.mul h'.b2).up (by omega))
theorem Fb.neg {k : Nat} {p : P2} (h : Fb k p) : Fb k (-p.1, p.2) := ⟨h.pos, h.b1.neg, h.b2⟩
theorem Fra.neg {k : Nat} {p : P2} (h : Fra k p) : Fra k (-p.1, p.2) := ⟨can_neg h.can, h.b1.neg, h.b2⟩
theorem Fb.int {k : Nat} {c : Int} (h : Bd (k + 1) c) : Fb (k + 1) (c, 1) := ⟨by show (0 : Int) < 1; decide, h, by show Bd (k + 1) (1 : Int); have := Nat.pow_le_pow_right (show 0 < 2 by decide) (show 1 ≤ k + 1 by omega); unfold Bd; omega⟩
theorem Fra.int {k : Nat} {c : Int} (h : Bd (k + 1) c) : Fra (k + 1) (c, 1) := ⟨can_int c, h, (Fb.int h).b2⟩
def absP (p : P2) : P2 := (p.1.natAbs, p.2)
theorem Fra.absP {k : Nat} {p : P2} (h : Fra k p) : Fra k (absP p) := ⟨⟨h.can.pos, by show Nat.gcd (p.1.natAbs : Int).natAbs p.2.natAbs = 1; rw [Int.natAbs_natCast]; exact h.can.cop⟩, h.b1.abs, h.b2⟩
theorem Fb.absP {k : Nat} {p : P2} (h : Fb k p) : Fb k (absP p) := ⟨h.pos, h.b1.abs, h.b2⟩
theorem pow_le_pow {b : Int} (hb : 2 ≤ b) {m n : Nat} (h : m ≤ n) : b ^ m ≤ b ^ n := by
  obtain ⟨k, rfl⟩ := Nat.le.dest h
  rw [Int.pow_add]
  have h1 := powI_pos hb m
  have h2 := powI_pos hb k
  have := Int.mul_le_mul_of_nonneg_left (show (1 : Int) ≤ b ^ k by omega) (show (0 : Int) ≤ b ^ m by omega)
  rwa [Int.mul_one] at this
theorem bd_pow_le {b : Int} (hb : 2 ≤ b) {m n k : Nat} (h : m ≤ n) (hk : Bd k (b ^ n)) : Bd k (b ^ m) := by
  refine hk.of_natAbs ?_
  have h1 := pow_le_pow hb h
  have h2 := powI_pos hb m
  omega
/-- the powers between the ends -/
theorem FmOk.bdE {f : Fm} (hf : FmOk f) {e : Int} {n : Nat} (h1 : f.lo ≤ e) (h2 : e ≤ f.hi) (hn : n ≤ e.natAbs) : Bd 2400 (f.b ^ n) := by
  rcases Int.le_total 0 e with h | h
  · exact bd_pow_le hf.b2 (by omega : n ≤ f.hi.natAbs) hf.bh
  · exact bd_pow_le hf.b2 (by omega : n ≤ f.lo.natAbs) hf.bl
theorem FmOk.raP {f : Fm} (hf : FmOk f) {e : Int} (h1 : f.lo ≤ e) (h2 : e ≤ f.hi) : Fra 2400 (powP f.b e) := by
  refine ⟨powP_can hf.b2 e, ?_, ?_⟩
  · unfold powP
    split
    · exact hf.bdE h1 h2 (by omega)
    · exact (Bd.lit64 1 (by decide)).up (by decide)
  · unfold powP
    split
    · exact (Bd.lit64 1 (by decide)).up (by decide)
    · exact hf.bdE h1 h2 (by omega)
/-- a power is a quotient of two -/
theorem bp_quot {b : Int} (hb : 2 ≤ b) (e : Int) : bp b e * ((b ^ (max 0 (-e)).toNat : Int) : Rat) = ((b ^ (max 0 e).toNat : Int) : Rat) := by
  rcases Int.le_total 0 e with h | h
  · obtain ⟨n, rfl⟩ := Int.eq_ofNat_of_zero_le h
    rw [bp_nat, show (max 0 (-(n : Int))).toNat = 0 by omega, show (max 0 (n : Int)).toNat = n by omega]
    simp
  · obtain ⟨n, rfl⟩ : ∃ n : Nat, e = -(n : Int) := ⟨(-e).toNat, by omega⟩
    rw [bp_negn, show (max 0 (- -(n : Int))).toNat = n by omega, show (max 0 (-(n : Int))).toNat = 0 by omega]
    have : ((b ^ n : Int) : Rat) ≠ 0 := rat_ne (by have := powI_pos hb n; omega)
    simp
    grind
theorem wo_ge {b : Int} (hb : 2 ≤ b) {n d : Int} (hd : 0 < d) (t e : Int) : (t : Rat) * bp b e ≤ wo (n, d) ↔ t * (d * b ^ (max 0 e).toNat) ≤ n * b ^ (max 0 (-e)).toNat := by
  have hq := bp_quot hb e
  have hm : (0 : Rat) < ((b ^ (max 0 (-e)).toNat : Int) : Rat) := by exact_mod_cast powI_pos hb _
  have hd' : (0 : Rat) < (d : Rat) := by exact_mod_cast hd
  have key : (t : Rat) * bp b e ≤ wo (n, d) ↔ (t : Rat) * ((d : Rat) * ((b ^ (max 0 e).toNat : Int) : Rat)) ≤ (n : Rat) * ((b ^ (max 0 (-e)).toNat : Int) : Rat) := by
    rw [← hq]
    generalize ((b ^ (max 0 (-e)).toNat : Int) : Rat) = M at hm
    have e1 : (t : Rat) * ((d : Rat) * (bp b e * M)) = ((t : Rat) * bp b e * d) * M := by grind
    rw [e1, ← Rat.not_lt, ← Rat.not_lt, Rat.mul_lt_mul_right hm, Rat.not_lt, Rat.not_lt]
    show _ ≤ (n : Rat) / (d : Rat) ↔ _
    rw [← Rat.not_lt, Rat.div_lt_iff hd', Rat.not_lt]
  rw [key]
  constructor
  · intro h
    exact_mod_cast h
  · intro h
    exact_mod_cast h
theorem wo_gt {b : Int} (hb : 2 ≤ b) {n d : Int} (hd : 0 < d) (t e : Int) : wo (n, d) < (t : Rat) * bp b e ↔ n * b ^ (max 0 (-e)).toNat < t * (d * b ^ (max 0 e).toNat) := by
  have := wo_ge hb (n := n) hd t e
  rw [← Rat.not_le, this, Int.not_le]
theorem wo_eq_iff {b : Int} (hb : 2 ≤ b) {n d : Int} (hd : 0 < d) (t e : Int) : (t : Rat) * bp b e = wo (n, d) ↔ t * (d * b ^ (max 0 e).toNat) = n * b ^ (max 0 (-e)).toNat := by
  have hq := bp_quot hb e
  have hm : ((b ^ (max 0 (-e)).toNat : Int) : Rat) ≠ 0 := rat_ne (by have := powI_pos hb (max 0 (-e)).toNat; omega)
  have hd' : (d : Rat) ≠ 0 := rat_ne (by omega)
  have key : (t : Rat) * bp b e = wo (n, d) ↔ (t : Rat) * ((d : Rat) * ((b ^ (max 0 e).toNat : Int) : Rat)) = (n : Rat) * ((b ^ (max 0 (-e)).toNat : Int) : Rat) := by
    rw [← hq]
    generalize ((b ^ (max 0 (-e)).toNat : Int) : Rat) = M at hm
    show _ = (n : Rat) / (d : Rat) ↔ _
    constructor
    · intro q
      have : (n : Rat) = (t : Rat) * bp b e * d := by rw [q]; grind
      rw [this]
      grind
    · intro q
      have : (t : Rat) * bp b e * d = n := by grind
      rw [← this]
      grind
  rw [key]
  constructor
  · intro h
    exact_mod_cast h
  · intro h
    exact_mod_cast h
theorem bp_lt {b : Int} (hb : 2 ≤ b) {c t : Int} {e : Int} {w : Rat} (h1 : (c : Rat) * bp b e ≤ w) (h2 : w < (t : Rat) * bp b e) : c < t := by
  have h := Std.lt_of_le_of_lt h1 h2
  rw [Rat.mul_lt_mul_right (bp_pos hb e)] at h
  exact_mod_cast h
/-- what the steps of the grid leave: the last exponent -/
theorem grid_fin {f : Fm} (hf : FmOk f) {n d e bulk bound : Int} (hd : 0 < d) (hn : 0 ≤ n) (h0 : f.lo ≤ e)
    (hb : bulk = n * f.b ^ (max 0 (-f.lo)).toNat) (hB : bound = d * f.b ^ (f.p + max 0 f.lo).toNat * f.b ^ (e - f.lo).toNat) :
    (bulk < bound ↔ wo (n, d) < (f.T : Rat) * bp f.b e) ∧ (bulk < bound * f.b ↔ wo (n, d) < (f.T : Rat) * bp f.b (e + 1)) := by
  obtain ⟨k, rfl⟩ : ∃ k : Nat, e = f.lo + k := ⟨(e - f.lo).toNat, by omega⟩
  have e0 : (f.lo + (k : Int) - f.lo).toNat = k := by omega
  rw [e0] at hB
  have p0 := hf.p2
  have ep : f.b ^ (f.p + max 0 f.lo).toNat = f.T * f.b ^ (max 0 f.lo).toNat := by
    unfold Fm.T
    rw [← Int.pow_add]
    congr 1
    omega
  have g : ∀ j : Nat, wo (n, d) < (f.T : Rat) * bp f.b (f.lo + j) ↔ bulk < d * (f.T * f.b ^ (max 0 f.lo).toNat) * f.b ^ j := fun j => by
    rw [bp_up hf.b2]
    have e1 : (f.T : Rat) * (((f.b ^ j : Int) : Rat) * bp f.b f.lo) = ((f.T * f.b ^ j : Int) : Rat) * bp f.b f.lo := by
      push_cast
      grind
    rw [e1, wo_gt hf.b2 hd, ← hb]
    have e2 : f.T * f.b ^ j * (d * f.b ^ (max 0 f.lo).toNat) = d * (f.T * f.b ^ (max 0 f.lo).toNat) * f.b ^ j := by grind
    rw [e2]
  refine ⟨?_, ?_⟩
  · rw [g k, hB, ep]
  · rw [show f.lo + (k : Int) + 1 = f.lo + ((k + 1 : Nat) : Int) by omega, g (k + 1), hB, ep, Int.pow_succ, Int.mul_assoc _ (f.b ^ k) f.b]
/-- the floor at an exponent -/
theorem grid_floor {f : Fm} (hf : FmOk f) {n d e : Int} (hd : 0 < d) (hn : 0 ≤ n) (he : f.lo ≤ e) (h1 : wo (n, d) < (f.T : Rat) * bp f.b e) (h2 : e = f.lo ∨ (f.T : Rat) * bp f.b (e - 1) ≤ wo (n, d)) :
    ∃ c : Int, (n * f.b ^ (max 0 (-e)).toNat).fdiv (d * f.b ^ (max 0 e).toNat) = c ∧ 0 ≤ c ∧ c < f.T ∧ (e = f.lo ∨ f.F ≤ c) ∧ (c : Rat) * bp f.b e ≤ wo (n, d) ∧ wo (n, d) < ((c + 1 : Int) : Rat) * bp f.b e := by
  have hD : 0 < d * f.b ^ (max 0 e).toNat := Int.mul_pos hd (powI_pos hf.b2 _)
  obtain ⟨c, r, a, b, r0, r1⟩ := fdiv_parts (n := n * f.b ^ (max 0 (-e)).toNat) hD
  have l1 : (c : Rat) * bp f.b e ≤ wo (n, d) := (wo_ge hf.b2 hd c e).mpr (by rw [b]; omega)
  have l2 : wo (n, d) < ((c + 1 : Int) : Rat) * bp f.b e := (wo_gt hf.b2 hd (c + 1) e).mpr (by rw [b, Int.add_mul]; omega)
  refine ⟨c, a, ?_, bp_lt hf.b2 l1 h1, ?_, l1, l2⟩
  · have hN : 0 ≤ n * f.b ^ (max 0 (-e)).toNat := Int.mul_nonneg hn (by have := powI_pos hf.b2 (max 0 (-e)).toNat; omega)
    apply Int.not_lt.mp
    intro hc
    have : c * (d * f.b ^ (max 0 e).toNat) ≤ -1 * (d * f.b ^ (max 0 e).toNat) := Int.mul_le_mul_of_nonneg_right (by omega) (by omega)
    omega
  · rcases h2 with h2 | h2
    · exact .inl h2
    · right
      have e1 : (f.T : Rat) * bp f.b (e - 1) = (f.F : Rat) * bp f.b e := by
        have := bp_one hf.b2 (e - 1)
        rw [show e - 1 + 1 = e by omega] at this
        rw [this, hf.T_eq]
        push_cast
        grind
      rw [e1] at h2
      have := bp_lt hf.b2 h2 l2
      omega
end VI

/-! PL8: cuts, the number of a fraction. -/
namespace VI
open PySem
abbrev upTo (K : KS) (R : En → Sto → Prop) : KS := { nx := R, rt := K.rt, bk := K.bk, ct := K.ct }
theorem cut2 {tb : Tb} (ht : tb.Mono) {a b rest : IS} {env : En} {st : Sto} {K : KS} (R : En → Sto → Prop)
    (h1 : semS tb (.seq a b) env st (upTo K R)) (h2 : ∀ env st, R env st → semS tb rest env st K) : semS tb (.seq a (.seq b rest)) env st K :=
  show semS tb (.seq a b) env st { K with nx := fun env st => semS tb rest env st K } from
  semS_mono ht (.seq a b) env st (upTo K R) _ ⟨h2, fun _ _ q => q, fun _ _ q => q, fun _ _ q => q⟩ h1
theorem cut3 {tb : Tb} (ht : tb.Mono) {a b c rest : IS} {env : En} {st : Sto} {K : KS} (R : En → Sto → Prop)
    (h1 : semS tb (.seq a (.seq b c)) env st (upTo K R)) (h2 : ∀ env st, R env st → semS tb rest env st K) : semS tb (.seq a (.seq b (.seq c rest))) env st K :=
  show semS tb (.seq a (.seq b c)) env st { K with nx := fun env st => semS tb rest env st K } from
  semS_mono ht (.seq a (.seq b c)) env st (upTo K R) _ ⟨h2, fun _ _ q => q, fun _ _ q => q, fun _ _ q => q⟩ h1
theorem cut5 {tb : Tb} (ht : tb.Mono) {a b c d e rest : IS} {env : En} {st : Sto} {K : KS} (R : En → Sto → Prop)
    (h1 : semS tb (.seq a (.seq b (.seq c (.seq d e)))) env st (upTo K R)) (h2 : ∀ env st, R env st → semS tb rest env st K) : semS tb (.seq a (.seq b (.seq c (.seq d (.seq e rest))))) env st K :=
  show semS tb (.seq a (.seq b (.seq c (.seq d e)))) env st { K with nx := fun env st => semS tb rest env st K } from
  semS_mono ht (.seq a (.seq b (.seq c (.seq d e)))) env st (upTo K R) _ ⟨h2, fun _ _ q => q, fun _ _ q => q, fun _ _ q => q⟩ h1
/-- a number's size is the fraction's -/
def SizeAt (f : Fm) (x : P2) (c e : Int) : Prop := NumOk f 0 c e ∧ (c : Rat) * bp f.b e = wo (absP x)
def IsNum (f : Fm) (x : P2) : Option Vl → Prop
  | some v => ∃ c e, v = .num (if x.1 < 0 then 1 else 0) c e ∧ SizeAt f x c e
  | none => ∀ c e, ¬SizeAt f x c e
theorem NumOk.sign {f : Fm} {s c e : Int} (h : NumOk f 0 c e) (hs : s = 0 ∨ s = 1) : NumOk f s c e := ⟨hs, h.e1, h.e2, h.c0, h.c1, h.c2⟩
theorem wo_sg0 {b : Int} (hb : 2 ≤ b) (c e : Int) : wo (wv b 0 c e) = (c : Rat) * bp b e := by
  rw [wo_wv hb]
  simp [sg]
theorem num_uniq {f : Fm} (hf : FmOk f) {c e c' e' : Int} (h : NumOk f 0 c e) (h' : NumOk f 0 c' e') (q : (c : Rat) * bp f.b e = (c' : Rat) * bp f.b e') : c = c' ∧ e = e' := by
  rw [← wo_sg0 hf.b2, ← wo_sg0 hf.b2] at q
  have a := wo_rank hf h h'
  have b := wo_rank hf h' h
  rw [q] at a
  rw [← q] at b
  have a1 : ¬ rkV f (.num 0 c e) < rkV f (.num 0 c' e') := fun z => Rat.lt_irrefl (a.mpr z)
  have b1 : ¬ rkV f (.num 0 c' e') < rkV f (.num 0 c e) := fun z => Rat.lt_irrefl (b.mpr z)
  rw [rk_num (.inl rfl), rk_num (.inl rfl)] at a1 b1
  simp only [sg] at a1 b1
  have m := M_lt hf h h'
  have m' := M_lt hf h' h
  rcases Int.lt_trichotomy e e' with z | z | z
  · have := m.1 z
    simp at a1 b1
    omega
  · have := m.2 z
    have := m'.2 z.symm
    simp at a1 b1
    exact ⟨by omega, z⟩
  · have := m'.1 z
    simp at a1 b1
    omega
theorem isNum_uniq {f : Fm} (hf : FmOk f) {x : P2} {r r' : Option Vl} (h : IsNum f x r) (h' : IsNum f x r') : r = r' := by
  cases r with
  | none =>
    cases r' with
    | none => rfl
    | some v =>
      obtain ⟨c, e, _, q⟩ := h'
      exact absurd q (h c e)
  | some v =>
    obtain ⟨c, e, rfl, q⟩ := h
    cases r' with
    | none => exact absurd q (h' c e)
    | some v' =>
      obtain ⟨c', e', rfl, q'⟩ := h'
      obtain ⟨rfl, rfl⟩ := num_uniq hf q.1 q'.1 (q.2.trans q'.2.symm)
      rfl
theorem bp_split {b : Int} (hb : 2 ≤ b) {e e' : Int} (h : e ≤ e') : bp b e' = ((b ^ (e' - e).toNat : Int) : Rat) * bp b e := by
  have := bp_up hb e (e' - e).toNat
  rwa [show e + ((e' - e).toNat : Int) = e' by omega] at this
theorem bp_cancel {b : Int} (hb : 2 ≤ b) {c c' e : Int} (h : (c : Rat) * bp b e = (c' : Rat) * bp b e) : c = c' := by
  have h1 := bp_pos hb e
  have h2 : bp b e ≠ 0 := by grind
  have : (c : Rat) = (c' : Rat) := by grind
  exact_mod_cast this
/-- of the same size with more digits: the other exponent is above -/
theorem size_up {f : Fm} (hf : FmOk f) {c e c' e' : Int} (h : f.T ≤ c) (h' : c' < f.T) (h0 : 0 ≤ c') (q : (c : Rat) * bp f.b e = (c' : Rat) * bp f.b e') : e < e' ∧ c % f.b = 0 := by
  have hb := hf.b2
  by_cases he : e' ≤ e
  · exfalso
    rw [bp_split hb he] at q
    have : c * f.b ^ (e - e').toNat = c' := by
      refine bp_cancel hb (e := e') ?_
      rw [← q]
      push_cast
      grind
    have p := powI_pos hb (e - e').toNat
    have T0 := hf.XF
    have := Int.mul_le_mul_of_nonneg_left (show (1 : Int) ≤ f.b ^ (e - e').toNat by omega) (show (0 : Int) ≤ c by omega)
    omega
  · refine ⟨by omega, ?_⟩
    rw [bp_split hb (show e ≤ e' by omega)] at q
    have e1 : c = c' * f.b ^ (e' - e).toNat := by
      refine bp_cancel hb (e := e) ?_
      rw [q]
      push_cast
      grind
    rw [e1, show (e' - e).toNat = (e' - e - 1).toNat + 1 by omega, Int.pow_succ, ← Int.mul_assoc]
    exact Int.mul_emod_left _ _
/-- the integer over the least unit -/
theorem size_lo {f : Fm} (hf : FmOk f) {n d c e : Int} (hd : 0 < d) (h : f.lo ≤ e) (q : (c : Rat) * bp f.b e = wo (n, d)) : n * f.b ^ (max 0 (-f.lo)).toNat = (c * f.b ^ (e - f.lo).toNat) * (d * f.b ^ (max 0 f.lo).toNat) := by
  have hb := hf.b2
  rw [bp_split hb h] at q
  have e1 : ((c * f.b ^ (e - f.lo).toNat : Int) : Rat) * bp f.b f.lo = wo (n, d) := by
    rw [← q]
    push_cast
    grind
  exact ((wo_eq_iff hb (n := n) hd (c * f.b ^ (e - f.lo).toNat) f.lo).mp e1).symm
end VI

/-! PL9: what prunes. -/
namespace VI
open PySem
theorem strA : (("inf" : Str) = "num") = False := eq_false (by decide)
theorem strB : (("nan" : Str) = "num") = False := eq_false (by decide)
theorem strC : (("num" : Str) = "inf") = False := eq_false (by decide)
theorem strD : (("num" : Str) = "nan") = False := eq_false (by decide)
theorem strE : (("inf" : Str) = "nan") = False := eq_false (by decide)
theorem strF : (("nan" : Str) = "inf") = False := eq_false (by decide)
theorem isNonD_int (i : Int) : isNonD (.int i) = false := rfl
theorem isNonD_none : isNonD .none = true := rfl
theorem isNonD_tup (i : List D) : isNonD (.tuple i) = false := rfl
theorem isNonD_vl (v : Vl) : isNonD (vlD v) = false := by cases v <;> rfl
theorem isNonD_o (v : Option Vl) : isNonD (oD v) = v.isNone := by cases v with
  | none => rfl
  | some v => exact isNonD_vl v
theorem isNan_num (s c e : Int) : isNan (.num s c e) = false := rfl
theorem isNan_inf (s : Int) : isNan (.inf s) = false := rfl
theorem isNan_nan : isNan .nan = true := rfl
end VI

/-! PL10: powers below, parts. -/
namespace VI
open PySem
theorem two_pow_le {b : Int} (hb : 2 ≤ b) (n : Nat) : (2 : Int) ^ n ≤ b ^ n := by
  induction n with
  | zero => simp
  | succ n ih =>
    rw [Int.pow_succ, Int.pow_succ]
    have := powI_pos hb n
    exact Int.mul_le_mul ih hb (by decide) (by omega)
theorem bd_lt {k : Nat} {x : Int} (h : Bd k x) : x < (2 : Int) ^ k := by
  unfold Bd at h
  have e : ((2 ^ k : Nat) : Int) = (2 : Int) ^ k := by push_cast; rfl
  omega
theorem bp_le_bd {b : Int} (hb : 2 ≤ b) {x : P2} {K : Nat} (hx : Fb K x) (h0 : 0 < x.1) {j : Int} (h : bp b j ≤ wo x) : j ≤ K := by
  apply Classical.byContradiction
  intro z
  have h1 := (wo_ge hb (n := x.1) (d := x.2) hx.pos 1 j).mp (by simpa using h)
  rw [show (max 0 (-j)).toNat = 0 by omega, Int.pow_zero, Int.mul_one, Int.one_mul] at h1
  have h2 := pow_le_pow hb (show K ≤ (max 0 j).toNat by omega)
  have h3 := two_pow_le hb K
  have h4 := bd_lt hx.b1
  have h5 := Int.mul_le_mul_of_nonneg_right (show (1 : Int) ≤ x.2 by have := hx.pos; omega) (show (0 : Int) ≤ b ^ (max 0 j).toNat by have := powI_pos hb (max 0 j).toNat; omega)
  rw [Int.one_mul] at h5
  omega
theorem bp_ge_bd {b : Int} (hb : 2 ≤ b) {x : P2} {K : Nat} (hx : Fb K x) (h0 : 0 < x.1) {j : Int} (h : K ≤ -j) : bp b j ≤ wo x := by
  have h1 := (wo_ge hb (n := x.1) (d := x.2) hx.pos 1 j).mpr (by
    rw [show (max 0 j).toNat = 0 by omega, Int.pow_zero, Int.mul_one, Int.one_mul]
    have h2 := pow_le_pow hb (show K ≤ (max 0 (-j)).toNat by omega)
    have h3 := two_pow_le hb K
    have h4 := bd_lt hx.b2
    have h5 := Int.mul_le_mul_of_nonneg_right (show (1 : Int) ≤ x.1 by omega) (show (0 : Int) ≤ b ^ (max 0 (-j)).toNat by have := powI_pos hb (max 0 (-j)).toNat; omega)
    rw [Int.one_mul] at h5
    omega)
  simpa using h1
def oI : Option Int → D
  | some z => .int z
  | none => .none
def SideAt (b : Int) (x : P2) (c e : Int) : Option Int → Prop
  | none => (c : Rat) * bp b e = wo x
  | some z => (c : Rat) * bp b e < wo x ∧ ((z = 1 ∧ ((2 * c + 1 : Int) : Rat) * bp b e < 2 * wo x) ∨ (z = 0 ∧ ((2 * c + 1 : Int) : Rat) * bp b e = 2 * wo x) ∨ (z = -1 ∧ 2 * wo x < ((2 * c + 1 : Int) : Rat) * bp b e))
structure PartAt (f : Fm) (x : P2) (c e : Int) (sd : Option Int) : Prop where
  e0 : f.lo ≤ e
  e1 : e ≤ 9700
  c0 : 0 ≤ c
  c1 : c < f.T
  cF : e = f.lo ∨ f.F ≤ c
  le : (c : Rat) * bp f.b e ≤ wo x
  lt : wo x < ((c + 1 : Int) : Rat) * bp f.b e
  sd : SideAt f.b x c e sd
/-- the exponent by the power below -/
theorem part_e {f : Fm} (hf : FmOk f) {x : P2} {k : Int} (h1 : bp f.b k ≤ wo x) (h2 : wo x < bp f.b (k + 1)) : wo x < (f.T : Rat) * bp f.b (max f.lo (k - f.p + 1)) ∧ (max f.lo (k - f.p + 1) = f.lo ∨ (f.T : Rat) * bp f.b (max f.lo (k - f.p + 1) - 1) ≤ wo x) := by
  have hp := hf.p2
  have hT : ∀ e : Int, (f.T : Rat) * bp f.b e = bp f.b (e + f.p) := fun e => by
    have := bp_up hf.b2 e f.p.toNat
    rw [show e + ((f.p.toNat : Nat) : Int) = e + f.p by omega] at this
    rw [this]
    rfl
  rw [hT, hT]
  by_cases h : f.lo ≤ k - f.p + 1
  · rw [show max f.lo (k - f.p + 1) = k - f.p + 1 by omega, show k - f.p + 1 + f.p = k + 1 by omega, show k - f.p + 1 - 1 + f.p = k by omega]
    exact ⟨h2, .inr h1⟩
  · rw [show max f.lo (k - f.p + 1) = f.lo by omega]
    refine ⟨?_, .inl rfl⟩
    rw [bp_split hf.b2 (show k + 1 ≤ f.lo + f.p by omega)]
    have p := powI_pos hf.b2 (f.lo + f.p - (k + 1)).toNat
    have bp0 := bp_pos hf.b2 (k + 1)
    have : (1 : Rat) ≤ ((f.b ^ (f.lo + f.p - (k + 1)).toNat : Int) : Rat) := by
      have : (1 : Int) ≤ f.b ^ (f.lo + f.p - (k + 1)).toNat := by omega
      exact_mod_cast this
    have h3 : 1 * bp f.b (k + 1) ≤ ((f.b ^ (f.lo + f.p - (k + 1)).toNat : Int) : Rat) * bp f.b (k + 1) := by
      rw [← Rat.not_lt, Rat.mul_lt_mul_right bp0, Rat.not_lt]
      exact this
    rw [Rat.one_mul] at h3
    exact Std.lt_of_lt_of_le h2 h3
theorem wo_two {n d : Int} : wo (2 * n, d) = 2 * wo (n, d) := by
  unfold wo
  show ((2 * n : Int) : Rat) / (d : Rat) = 2 * ((n : Rat) / (d : Rat))
  rw [Rat.div_def, Rat.div_def]
  push_cast
  grind
/-- the side -/
theorem part_side {b : Int} (hb : 2 ≤ b) {n d c e : Int} (hd : 0 < d) (hle : (c : Rat) * bp b e ≤ wo (n, d)) :
    (c * (d * b ^ (max 0 e).toNat) = n * b ^ (max 0 (-e)).toNat → SideAt b (n, d) c e none) ∧
    (c * (d * b ^ (max 0 e).toNat) ≠ n * b ^ (max 0 (-e)).toNat → ∀ r, r = 2 * (n * b ^ (max 0 (-e)).toNat - c * (d * b ^ (max 0 e).toNat)) - d * b ^ (max 0 e).toNat →
      SideAt b (n, d) c e (some ((if 0 < r then 1 else 0) - (if r < 0 then 1 else 0)))) := by
  have hi := wo_eq_iff hb (n := n) hd c e
  refine ⟨fun h => hi.mpr h, fun h r hr => ?_⟩
  have hne : ¬ (c : Rat) * bp b e = wo (n, d) := fun z => h (hi.mp z)
  have hlt : (c : Rat) * bp b e < wo (n, d) := by
    rw [← Rat.not_le]
    intro z
    exact hne (Rat.le_antisymm hle z)
  refine ⟨hlt, ?_⟩
  rw [← wo_two]
  have a := wo_ge hb (n := 2 * n) hd (2 * c + 1) e
  have b1 := wo_gt hb (n := 2 * n) hd (2 * c + 1) e
  have c1 := wo_eq_iff hb (n := 2 * n) hd (2 * c + 1) e
  generalize d * b ^ (max 0 e).toNat = P at *
  rw [Int.mul_assoc 2 n] at a b1 c1
  generalize n * b ^ (max 0 (-e)).toNat = M at *
  have e1 : (2 * c + 1) * P = 2 * (c * P) + P := by grind
  rw [e1] at a b1 c1
  rcases Int.lt_trichotomy r 0 with z | z | z
  · right
    right
    refine ⟨by rw [if_neg (by omega), if_pos z]; omega, b1.mpr (by omega)⟩
  · right
    left
    refine ⟨by rw [if_neg (by omega), if_neg (by omega)]; omega, c1.mpr (by omega)⟩
  · left
    refine ⟨by rw [if_pos z, if_neg (by omega)]; omega, ?_⟩
    rw [← Rat.not_le]
    intro y
    have : ¬ wo (2 * n, d) < ((2 * c + 1 : Int) : Rat) * bp b e := fun q => by
      have := b1.mp q
      omega
    have h3 : ((2 * c + 1 : Int) : Rat) * bp b e = wo (2 * n, d) := by
      refine Rat.le_antisymm ?_ y
      rw [← Rat.not_lt]
      exact this
    have := c1.mp h3
    omega
end VI

/-! PL11: parts are unique and exist; the ladder. -/
namespace VI
open PySem
theorem nat_last {P : Nat → Prop} {n : Nat} (h0 : P 0) (hn : ¬ P n) : ∃ k, P k ∧ ¬ P (k + 1) := by
  apply Classical.byContradiction
  intro h
  have : ∀ k, P k := fun k => by
    induction k with
    | zero => exact h0
    | succ k ih => exact Classical.byContradiction fun z => h ⟨k, ih, z⟩
  exact hn (this n)
theorem pow_exists {b : Int} (hb : 2 ≤ b) {x : P2} {K : Nat} (hx : Fb K x) (h0 : 0 < x.1) : ∃ k : Int, bp b k ≤ wo x ∧ wo x < bp b (k + 1) ∧ -(K : Int) ≤ k ∧ k ≤ K := by
  obtain ⟨k, h1, h2⟩ := nat_last (P := fun k => bp b (-(K : Int) + k) ≤ wo x) (n := 2 * K + 1)
    (bp_ge_bd hb hx h0 (by omega)) (fun z => by have := bp_le_bd hb hx h0 z; omega)
  have h1 : bp b (-(K : Int) + k) ≤ wo x := h1
  have h3 := bp_le_bd hb hx h0 h1
  refine ⟨-(K : Int) + k, h1, ?_, by omega, h3⟩
  rw [show -(K : Int) + k + 1 = -(K : Int) + ((k + 1 : Nat) : Int) by omega, ← Rat.not_le]
  exact h2
theorem part_exists {f : Fm} (hf : FmOk f) {x : P2} {K : Nat} (hx : Fb K x) (hK : K ≤ 9700) (h0 : 0 ≤ x.1) : ∃ c e sd, PartAt f x c e sd ∧ (e ≤ K ∨ e = f.lo) := by
  obtain ⟨n, d⟩ := x
  have hd : 0 < d := hx.pos
  have h0 : 0 ≤ n := h0
  have i3 := hf.l
  have i4 := hf.h
  have i5 := hf.lh
  have TF := hf.TF
  have F0 := hf.F_pos
  have W0 := hf.W_pos
  rcases Int.lt_or_eq_of_le h0 with n0 | n0
  · obtain ⟨k, k1, k2, k3, k4⟩ := pow_exists hf.b2 hx n0
    obtain ⟨q1, q2⟩ := part_e hf k1 k2
    have hp := hf.p2
    obtain ⟨c, ca, c0, c1, cF, cle, clt⟩ := grid_floor (n := n) hf hd h0 (show f.lo ≤ max f.lo (k - f.p + 1) by omega) q1 q2
    obtain ⟨s1, s2⟩ := part_side hf.b2 hd cle
    by_cases z : c * (d * f.b ^ (max 0 (max f.lo (k - f.p + 1))).toNat) = n * f.b ^ (max 0 (-(max f.lo (k - f.p + 1)))).toNat
    · exact ⟨c, _, none, ⟨by omega, by omega, c0, c1, cF, cle, clt, s1 z⟩, by omega⟩
    · exact ⟨c, _, some _, ⟨by omega, by omega, c0, c1, cF, cle, clt, s2 z _ rfl⟩, by omega⟩
  · subst n0
    have w0 : wo (0, d) = 0 := by
      unfold wo
      show ((0 : Int) : Rat) / _ = 0
      rw [Rat.div_def]
      simp
    refine ⟨0, f.lo, none, ⟨Int.le_refl _, by omega, Int.le_refl _, by omega, .inl rfl, ?_, ?_, ?_⟩, .inr rfl⟩
    · rw [w0]
      simp
    · rw [w0]
      have := bp_pos hf.b2 f.lo
      simpa using this
    · show ((0 : Int) : Rat) * bp f.b f.lo = _
      rw [w0]
      simp
/-- nothing of a lesser exponent reaches as far -/
theorem low_lt {f : Fm} (hf : FmOk f) {c e c' e' : Int} (he : e' < e) (hF : f.F ≤ c) (h' : c' + 1 ≤ f.T) : ((c' + 1 : Int) : Rat) * bp f.b e' ≤ (c : Rat) * bp f.b e := by
  have e1 := bp_split hf.b2 (show e' + 1 ≤ e by omega)
  rw [e1, bp_one hf.b2]
  have e2 : (c : Rat) * (((f.b ^ (e - (e' + 1)).toNat : Int) : Rat) * ((f.b : Rat) * bp f.b e')) = ((c * f.b * f.b ^ (e - (e' + 1)).toNat : Int) : Rat) * bp f.b e' := by
    push_cast
    grind
  rw [e2, ← Rat.not_lt, Rat.mul_lt_mul_right (bp_pos hf.b2 e')]
  have hle : c' + 1 ≤ c * f.b * f.b ^ (e - (e' + 1)).toNat := by
    have hT := hf.T_eq
    have hb := hf.b2
    have p := powI_pos hf.b2 (e - (e' + 1)).toNat
    have F0 := hf.F_pos
    have a1 : f.F * f.b ≤ c * f.b := Int.mul_le_mul_of_nonneg_right hF (by omega)
    rw [Int.mul_comm f.F, ← hT] at a1
    have a2 := Int.mul_le_mul_of_nonneg_left (show (1 : Int) ≤ f.b ^ (e - (e' + 1)).toNat by omega) (show (0 : Int) ≤ c * f.b by have := hf.XF; have := hf.TF; have := hf.W_pos; omega)
    omega
  intro z
  have : c * f.b * f.b ^ (e - (e' + 1)).toNat < c' + 1 := by exact_mod_cast z
  omega
theorem part_uniq {f : Fm} (hf : FmOk f) {x : P2} {c e c' e' : Int} {sd sd' : Option Int} (h : PartAt f x c e sd) (h' : PartAt f x c' e' sd') : c = c' ∧ e = e' ∧ sd = sd' := by
  have noLess : ∀ {c e c' e' : Int} {sd sd' : Option Int}, PartAt f x c e sd → PartAt f x c' e' sd' → ¬ e' < e := fun {c e c' e' sd sd'} h h' z => by
    have hF : f.F ≤ c := by
      rcases h.cF with q | q
      · have := h'.e0
        omega
      · exact q
    have := low_lt hf (c' := c') z hF (by have := h'.c1; omega)
    exact absurd (Std.lt_of_lt_of_le h'.lt (Rat.le_trans this h.le)) Rat.lt_irrefl
  have he : e = e' := by
    have a := noLess h h'
    have b := noLess h' h
    omega
  subst he
  have a := bp_lt hf.b2 h.le h'.lt
  have b := bp_lt hf.b2 h'.le h.lt
  have hc : c = c' := by omega
  subst hc
  refine ⟨rfl, rfl, ?_⟩
  have s := h.sd
  have s' := h'.sd
  cases sd with
  | none =>
    cases sd' with
    | none => rfl
    | some z =>
      have s : (c : Rat) * bp f.b e = wo x := s
      have s' := s'.1
      rw [s] at s'
      exact absurd s' Rat.lt_irrefl
  | some z =>
    cases sd' with
    | none =>
      have s' : (c : Rat) * bp f.b e = wo x := s'
      have s := s.1
      rw [s'] at s
      exact absurd s Rat.lt_irrefl
    | some z' =>
      have s := s.2
      have s' := s'.2
      congr 1
      rcases s with ⟨rfl, a⟩ | ⟨rfl, a⟩ | ⟨rfl, a⟩ <;> rcases s' with ⟨rfl, b⟩ | ⟨rfl, b⟩ | ⟨rfl, b⟩ <;> first | rfl | (exfalso; grind)
/-- a border in a row -/
theorem border {P : Nat → Prop} (n : Nat) (hP : ∀ i j, i ≤ j → j < n → P j → P i) : ∃ t, t ≤ n ∧ ∀ i, i < n → (P i ↔ i < t) := by
  induction n with
  | zero => exact ⟨0, Nat.le_refl _, fun i h => by omega⟩
  | succ n ih =>
    obtain ⟨t, ht, h⟩ := ih fun i j a b c => hP i j a (by omega) c
    by_cases hn : P n
    · refine ⟨n + 1, Nat.le_refl _, fun i hi => ⟨fun _ => hi, fun _ => hP i n (by omega) (by omega) hn⟩⟩
    · refine ⟨t, by omega, fun i hi => ?_⟩
      by_cases hin : i < n
      · exact h i hin
      · have : i = n := by omega
        subst this
        exact ⟨fun z => absurd z hn, fun z => by omega⟩
end VI

/-! PL12: neighbours by going through. -/
namespace VI
open PySem
/-- the neighbour by size: below (false), above (true) -/
def SizeNb (f : Fm) (x : P2) (up : Bool) (c e : Int) : Prop := ∃ c0 e0 sd, PartAt f x c0 e0 sd ∧ (if up = true ∧ sd.isSome then (if c0 + 1 = f.T then c = f.F ∧ e = e0 + 1 else c = c0 + 1 ∧ e = e0) else c = c0 ∧ e = e0)
theorem nb_uniq {f : Fm} (hf : FmOk f) {x : P2} {up : Bool} {c e c' e' : Int} (h : SizeNb f x up c e) (h' : SizeNb f x up c' e') : c = c' ∧ e = e' := by
  obtain ⟨c0, e0, sd, p, q⟩ := h
  obtain ⟨c1, e1, sd1, p1, q1⟩ := h'
  obtain ⟨rfl, rfl, rfl⟩ := part_uniq hf p p1
  split at q
  · rename_i z
    rw [if_pos z] at q1
    split at q
    · rename_i y
      rw [if_pos y] at q1
      omega
    · rename_i y
      rw [if_neg y] at q1
      omega
  · rename_i z
    rw [if_neg z] at q1
    omega
structure LadAt (f : Fm) (ys : List D) : Prop where
  len : ys.length = f.w4.X.toNat
  at_ : ∀ (i : Nat) (y : D), ys[i]? = some y → ∃ c e, y = .tuple [dF (wv f.b 0 c e), vlD (.num 0 c e)] ∧ NumOk f.w4 0 c e ∧ f.w4.M c e = i
def LoAt (f : Fm) (x : P2) (c e : Int) : Prop := NumOk f.w4 0 c e ∧ (c : Rat) * bp f.b e ≤ wo x ∧ ∀ c' e', NumOk f.w4 0 c' e' → (c' : Rat) * bp f.b e' ≤ wo x → f.w4.M c' e' ≤ f.w4.M c e
def UpAt (f : Fm) (x : P2) (c e : Int) : Prop := NumOk f.w4 0 c e ∧ wo x ≤ (c : Rat) * bp f.b e ∧ ∀ c' e', NumOk f.w4 0 c' e' → wo x ≤ (c' : Rat) * bp f.b e' → f.w4.M c e ≤ f.w4.M c' e'
theorem going_near {f : Fm} (hf : FmOk f) (h4 : FmOk f.w4) {x : P2} {c0 e0 : Int} {sd : Option Int} (hp : PartAt f x c0 e0 sd) {cL eL cU eU : Int} (hl : LoAt f x cL eL) (hu : UpAt f x cU eU) :
    SizeNb f x false cL eL ∧ SizeNb f x true cU eU := by
  obtain ⟨nL, l1, l2⟩ := hl
  obtain ⟨nU, u1, u2⟩ := hu
  have TF := hf.TF
  have F0 := hf.F_pos
  have W0 := hf.W_pos
  have F2 := hf.F2
  have hT : f.w4.T = f.T := rfl
  have hF : f.w4.F = f.F := rfl
  have hlo : f.w4.lo = f.lo := rfl
  have hb2 := hf.b2
  have low : ∀ {c e c' e' : Int}, e' < e → f.F ≤ c → c' + 1 ≤ f.T → ((c' + 1 : Int) : Rat) * bp f.b e' ≤ (c : Rat) * bp f.b e := fun h1 h2 h3 => low_lt hf h1 h2 h3
  have step : ∀ c e : Int, (c : Rat) * bp f.b e < ((c + 1 : Int) : Rat) * bp f.b e := fun c e => by
    rw [Rat.mul_lt_mul_right (bp_pos hb2 e)]
    have : c < c + 1 := by omega
    exact_mod_cast this
  have cFn : ∀ {c e : Int}, NumOk f.w4 0 c e → f.lo < e → f.F ≤ c := fun {c e} h z => by
    rcases h.c2 with q | q
    · have q : e = f.lo := q
      omega
    · exact q
  have tU : cU + 1 ≤ f.T := by have : cU < f.T := nU.c1; omega
  have tL : cL + 1 ≤ f.T := by have : cL < f.T := nL.c1; omega
  have t0 : c0 + 1 ≤ f.T := by have := hp.c1; omega
  have F0' : f.lo < e0 → f.F ≤ c0 := fun z => by
    rcases hp.cF with q | q
    · omega
    · exact q
  have ee := hp.e0
  have loU : f.lo ≤ eU := nU.e1
  have loL : f.lo ≤ eL := nL.e1
  -- not beyond
  have eU0 : ¬ eU < e0 := fun z => by
    have := low z (F0' (by omega)) tU
    exact absurd (Std.lt_of_lt_of_le (step cU eU) (Rat.le_trans this (Rat.le_trans hp.le u1))) Rat.lt_irrefl
  have e04 : e0 ≤ f.hi + 4 := by have : eU ≤ f.hi + 4 := nU.e2; omega
  have n0 : NumOk f.w4 0 c0 e0 := ⟨.inl rfl, hp.e0, e04, hp.c0, hp.c1, hp.cF⟩
  have Lge := l2 c0 e0 n0 hp.le
  have eqL : cL = c0 ∧ eL = e0 := by
    have m := M_lt h4 nL n0
    have m' := M_lt h4 n0 nL
    rcases Int.lt_trichotomy eL e0 with z | z | z
    · have := m.1 z
      omega
    · refine ⟨?_, z⟩
      subst z
      have a := bp_lt hb2 l1 hp.lt
      have := (m.2 rfl)
      omega
    · exfalso
      have := low z (cFn nL (by omega)) t0
      exact absurd (Std.lt_of_lt_of_le hp.lt (Rat.le_trans this l1)) Rat.lt_irrefl
  refine ⟨⟨c0, e0, sd, hp, by rw [if_neg (by simp)]; exact eqL⟩, ⟨c0, e0, sd, hp, ?_⟩⟩
  cases sd with
  | none =>
    rw [if_neg (by simp)]
    have ex : (c0 : Rat) * bp f.b e0 = wo x := hp.sd
    have Ule := u2 c0 e0 n0 (by rw [ex]; exact Rat.le_refl)
    have m := M_lt h4 n0 nU
    rcases Int.lt_trichotomy eU e0 with z | z | z
    · exact absurd z eU0
    · refine ⟨?_, z⟩
      subst z
      have a := bp_lt hb2 (c := c0) (t := cU + 1) (by rw [ex]; exact u1) (step cU eU)
      have := m.2 rfl
      omega
    · have := m.1 z
      omega
  | some z0 =>
    rw [if_pos (by simp)]
    have hlt : (c0 : Rat) * bp f.b e0 < wo x := hp.sd.1
    have m := M_lt h4 n0 nU
    by_cases hc : c0 + 1 = f.T
    · rw [if_pos hc]
      have eT : ((c0 + 1 : Int) : Rat) * bp f.b e0 = (f.F : Rat) * bp f.b (e0 + 1) := by
        rw [hc, bp_one hb2, hf.T_eq]
        push_cast
        grind
      have gU : e0 < eU := by
        rcases Int.lt_trichotomy eU e0 with z | z | z
        · exact absurd z eU0
        · exfalso
          subst z
          have a := bp_lt hb2 (Rat.le_refl (a := (c0 : Rat) * bp f.b eU)) (Std.lt_of_lt_of_le hlt u1)
          omega
        · exact z
      have e2 : eU ≤ f.hi + 4 := nU.e2
      have n1 : NumOk f.w4 0 f.F (e0 + 1) := ⟨.inl rfl, by show f.lo ≤ e0 + 1; omega, by show e0 + 1 ≤ f.hi + 4; omega, by omega, by show f.F < f.T; omega, .inr (Int.le_refl _)⟩
      have Ule := u2 _ _ n1 (by rw [← eT]; exact Rat.le_of_lt hp.lt)
      have m1 := M_lt h4 n1 nU
      rcases Int.lt_trichotomy eU (e0 + 1) with z | z | z
      · omega
      · refine ⟨?_, z⟩
        have := m1.2 z.symm
        have := cFn nU (by omega)
        omega
      · have := m1.1 z
        omega
    · rw [if_neg hc]
      have n1 : NumOk f.w4 0 (c0 + 1) e0 := ⟨.inl rfl, hp.e0, e04, by have := hp.c0; omega, by show c0 + 1 < f.T; omega, by
        rcases hp.cF with q | q
        · exact .inl q
        · exact .inr (by show f.F ≤ c0 + 1; omega)⟩
      have Ule := u2 _ _ n1 (Rat.le_of_lt hp.lt)
      have m1 := M_lt h4 n1 nU
      rcases Int.lt_trichotomy eU e0 with z | z | z
      · exact absurd z eU0
      · refine ⟨?_, z⟩
        have k1 := m1.2 z.symm
        subst z
        have a := bp_lt hb2 (Rat.le_refl (a := (c0 : Rat) * bp f.b eU)) (Std.lt_of_lt_of_le hlt u1)
        omega
      · have := m1.1 z
        omega
theorem eqv_dF (x y : P2) : PyData.eqv (dF x) (dF y) = decide (x = y) := by
  obtain ⟨a, b⟩ := x
  obtain ⟨c, d⟩ := y
  simp [dF, PyData.eqv, PyData.eqvAll, Bool.beq_eq_decide_eq, Prod.ext_iff]
/-- the power at a part's exponent -/
theorem part_pow {f : Fm} (hf : FmOk f) {x : P2} (hx : Fra 4200 x) {c0 e0 : Int} {sd : Option Int} (hp : PartAt f x c0 e0 sd) : Bd 4400 (f.b ^ (max 0 e0).toNat) := by
  obtain ⟨n, d⟩ := x
  have i1 := hf.b2
  have hd : 0 < d := hx.can.pos
  have pe0 := hp.e0
  have hbl := hf.bl
  rcases Int.lt_or_eq_of_le pe0 with z | z
  · have hF : f.F ≤ c0 := by
      rcases hp.cF with q | q
      · omega
      · exact q
    have F0 := hf.F_pos
    have key := (wo_ge i1 (n := n) (d := d) hd c0 e0).mp hp.le
    by_cases hz : 0 ≤ e0
    · rw [show (max 0 (-e0)).toNat = 0 by omega, Int.pow_zero, Int.mul_one] at key
      have pp := powI_pos i1 (max 0 e0).toNat
      have h1 : 1 * (d * f.b ^ (max 0 e0).toNat) ≤ c0 * (d * f.b ^ (max 0 e0).toNat) := Int.mul_le_mul_of_nonneg_right (by omega) (Int.mul_nonneg (by omega) (by omega))
      have h2 : 1 * f.b ^ (max 0 e0).toNat ≤ d * f.b ^ (max 0 e0).toNat := Int.mul_le_mul_of_nonneg_right (by omega) (by omega)
      exact (hx.b1.of_natAbs (show (f.b ^ (max 0 e0).toNat).natAbs ≤ n.natAbs by omega)).up (by decide)
    · rw [show (max 0 e0).toNat = 0 by omega, Int.pow_zero]
      exact (Bd.lit64 1 (by decide)).up (by decide)
  · have := bd_pow_le i1 (show (max 0 e0).toNat ≤ f.lo.natAbs by omega) hbl
    exact this.up (by decide)
theorem part_fra {f : Fm} (hf : FmOk f) {x : P2} (hx : Fra 4200 x) {c0 e0 : Int} {sd : Option Int} (hp : PartAt f x c0 e0 sd) : Fra 4400 (powP f.b e0) := by
  have bE := part_pow hf hx hp
  have pe0 := hp.e0
  refine ⟨powP_can hf.b2 _, ?_, ?_⟩
  · unfold powP
    split
    · rw [show max 0 e0 = e0 by omega] at bE
      exact bE
    · exact (Bd.lit64 1 (by decide)).up (by decide)
  · unfold powP
    split
    · exact (Bd.lit64 1 (by decide)).up (by decide)
    · exact (bd_pow_le hf.b2 (show (-e0).toNat ≤ f.lo.natAbs by omega) hf.bl).up (by decide)
theorem fit_num {s c e : Int} (hs : s = 0 ∨ s = 1) (hc : Bd 700 c) (he : e.natAbs ≤ 30000) : Fit 2 18000 (vlD (.num s c e)) := by
  have st : Fit 1 4310 (.str "num") := ⟨by decide +kernel, by decide +kernel, by decide +kernel, by decide +kernel⟩
  refine (Fit.tup (all_cons st (all_cons ((Fit.bd (Bd.lit64 s (by omega)) (by decide)).up (k' := 1) (w' := 4310) (by decide) (by decide)) (all_cons ((Fit.bd hc (by decide)).up (k' := 1) (w' := 4310) (by decide) (by decide)) (all_cons ((Fit.bd (Bd.lit64 e (by omega)) (by decide)).up (k' := 1) (w' := 4310) (by decide) (by decide)) all_nil))))).up (by decide) (by simp)
theorem nb_fit {f : Fm} (hf : FmOk f) {x : P2} {up : Bool} {c e s : Int} (hs : s = 0 ∨ s = 1) (h : SizeNb f x up c e) : Fit 2 18000 (vlD (.num s c e)) := by
  obtain ⟨c0, e0, sd, hp, q⟩ := h
  have h1 := hp.c0
  have h2 := hp.c1
  have h3 := hp.e0
  have h4 := hp.e1
  have h5 := hf.l
  have TF := hf.TF
  have F0 := hf.F_pos
  have W0 := hf.W_pos
  have hc : 0 ≤ c ∧ c ≤ f.T ∧ e0 ≤ e ∧ e ≤ e0 + 1 := by
    split at q
    · split at q <;> omega
    · omega
  exact fit_num hs ((hf.bdT.of_natAbs (by omega)).up (by decide)) (by omega)
/-- of 0 both are the same -/
theorem nb_zero {f : Fm} (hf : FmOk f) {d c e c' e' : Int} (h : SizeNb f (0, d) false c e) (h' : SizeNb f (0, d) true c' e') : c = c' ∧ e = e' := by
  obtain ⟨c0, e0, sd, hp, q⟩ := h'
  have w0 : wo (0, d) = 0 := by
    unfold wo
    show ((0 : Int) : Rat) / _ = 0
    rw [Rat.div_def]
    simp
  have hsd : sd = none := by
    cases sd with
    | none => rfl
    | some z =>
      have s := hp.sd.1
      rw [w0] at s
      have hb := bp_pos hf.b2 e0
      have : ((0 : Int) : Rat) * bp f.b e0 ≤ (c0 : Rat) * bp f.b e0 := by
        rw [← Rat.not_lt, Rat.mul_lt_mul_right hb]
        intro y
        have : c0 < 0 := by exact_mod_cast y
        have := hp.c0
        omega
      have y : ((0 : Int) : Rat) * bp f.b e0 = 0 := by simp
      rw [y] at this
      exact absurd (Std.lt_of_lt_of_le s this) Rat.lt_irrefl
  subst hsd
  rw [if_neg (by simp)] at q
  exact nb_uniq hf h ⟨c0, e0, none, hp, by rw [if_neg (by simp)]; exact q⟩
theorem mulP_nn {p q : P2} (hp : 0 ≤ p.1) (hp2 : 0 < p.2) (hq : 0 ≤ q.1) (hq2 : 0 < q.2) : 0 ≤ (mulP p q).1 := by
  have hd : 0 < p.2 * q.2 := Int.mul_pos hp2 hq2
  have e := nrm_eq (n := p.1 * q.1) (d := p.2 * q.2) (by omega)
  have h2 := (nrm_can (n := p.1 * q.1) (d := p.2 * q.2) (by omega)).pos
  have hn : 0 ≤ p.1 * q.1 * (nrm (p.1 * q.1) (p.2 * q.2)).2 := Int.mul_nonneg (Int.mul_nonneg hp hq) (by omega)
  rw [← e] at hn
  apply Int.not_lt.mp
  intro z
  have : (nrm (p.1 * q.1) (p.2 * q.2)).1 * (p.2 * q.2) < 0 * (p.2 * q.2) := Int.mul_lt_mul_of_pos_right z hd
  omega
theorem powP_nn {b : Int} (hb : 2 ≤ b) (e : Int) : 0 ≤ (powP b e).1 := by
  unfold powP
  split
  · exact Int.le_of_lt (powI_pos hb _)
  · show (0 : Int) ≤ 1
    decide
theorem absP_wv {b : Int} (hb : 2 ≤ b) {s c e : Int} (hc : 0 ≤ c) : absP (wv b s c e) = wv b 0 c e := by
  have h := mulP_nn (p := (c, 1)) (q := powP b e) hc (by show (0 : Int) < 1; decide) (powP_nn hb e) (powP_can hb e).pos
  have e0 : wv b 0 c e = mulP (c, 1) (powP b e) := by unfold wv; simp
  rw [e0]
  unfold wv absP
  split <;> (refine Prod.ext ?_ rfl; show (Int.natAbs _ : Int) = _; omega)
theorem wv_fra {f : Fm} (hf : FmOk f) {s c e : Int} (h : NumOk f s c e) : Fra 3200 (wv f.b s c e) := by
  have fe := hf.raP h.e1 h.e2
  have c1 : c < f.T := h.c1
  have c0 := h.c0
  have fc : Fb 641 (c, 1) := Fb.int (k := 640) ((hf.bdT.of_natAbs (show c.natAbs ≤ f.T.natAbs by omega)).up (by decide))
  have m := (fc.mul fe.fb).up (show 641 + 2400 ≤ 3200 by decide)
  unfold wv
  split
  · exact m.neg
  · exact m
theorem wv_sign {f : Fm} (hf : FmOk f) {s c e : Int} (h : NumOk f s c e) : ((wv f.b s c e).1 ≠ 0 ↔ c ≠ 0) ∧ ((wv f.b s c e).1 < 0 ↔ s = 1 ∧ c ≠ 0) := by
  have fc := wv_fra hf h
  have hm := mulP_nn (p := (c, 1)) (q := powP f.b e) h.c0 (by show (0 : Int) < 1; decide) (powP_nn hf.b2 e) (powP_can hf.b2 e).pos
  have z0 : (mulP (c, 1) (powP f.b e)).1 = 0 ↔ c = 0 := by
    have p := powP_can hf.b2 e
    have w := wo_mul (can_int c) p
    rw [wo_int] at w
    have cm := can_mul (can_int c) p
    have bp0 := bp_pos hf.b2 e
    constructor
    · intro z
      have : wo (mulP (c, 1) (powP f.b e)) = 0 := by
        unfold wo
        rw [z]
        show ((0 : Int) : Rat) / _ = 0
        rw [Rat.div_def]
        simp
      rw [this] at w
      have w : 0 = (c : Rat) * bp f.b e := w
      have : (c : Rat) = 0 := by
        have : bp f.b e ≠ 0 := by grind
        grind
      exact_mod_cast this
    · intro z
      subst z
      apply Classical.byContradiction
      intro y
      have := wo_ne cm y
      rw [w] at this
      exact this (by simp)
  have hs := h.s
  unfold wv
  rcases hs with rfl | rfl
  · simp
    omega
  · simp
    omega
/-- a number is its own neighbour -/
theorem nb_exact {f : Fm} (hf : FmOk f) {s c e : Int} (h : NumOk f s c e) {up : Bool} {c' e' : Int} (hn : SizeNb f (absP (wv f.b s c e)) up c' e') : c' = c ∧ e' = e := by
  obtain ⟨c0, e0, sd, hp, q⟩ := hn
  have hw : (c : Rat) * bp f.b e = wo (absP (wv f.b s c e)) := by
    rw [absP_wv hf.b2 h.c0, wo_sg0 hf.b2]
  have hi := hf.h
  have h2 := h.e2
  have hp' : PartAt f (absP (wv f.b s c e)) c e none := ⟨h.e1, by omega, h.c0, h.c1, h.c2, by rw [hw]; exact Rat.le_refl, by
    rw [← hw, Rat.mul_lt_mul_right (bp_pos hf.b2 e)]
    have : c < c + 1 := by omega
    exact_mod_cast this, hw⟩
  obtain ⟨rfl, rfl, rfl⟩ := part_uniq hf hp hp'
  rw [if_neg (by simp)] at q
  exact q
end VI

/-! PL13: outcomes, the nearest. -/
namespace VI
open PySem
/-- whether the size is rounded up -/
def upB (way : Str) (s c : Int) : Option Int → Bool
  | none => false
  | some z => if way = "zero" then false else if way = "up" then decide (s = 0) else if way = "down" then !decide (s = 0) else if z = 0 then (decide (way = "away") || decide (c % 2 = 1)) else decide (0 < z)
/-- the next greater size -/
def uN (f : Fm) (c e : Int) : Int × Int := if c + 1 = f.T then (f.F, e + 1) else (c + 1, e)
def upC (f : Fm) (way : Str) (s c e : Int) (sd : Option Int) : Int × Int := if upB way s c sd = true then uN f c e else (c, e)
def infB (way : Str) (s : Int) : Bool := decide (way = "even") || decide (way = "away") || decide (way = if s = 0 then "up" else "down")
def finV (f : Fm) (way : Str) (s c e : Int) (sd : Option Int) : Vl :=
  if f.hi < (upC f way s c e sd).2 then (if infB way s = true then .inf s else .num s (f.T - 1) f.hi) else .num s (upC f way s c e sd).1 (upC f way s c e sd).2
def finG (f : Fm) (way : Str) (s c e : Int) (sd : Option Int) : List Str :=
  if f.hi < (upC f way s c e sd).2 then ["inexact", "over"] else if sd.isSome = true ∧ c < f.F then ["inexact", "tiny"] else if sd.isNone = true then [] else ["inexact"]
def finD (f : Fm) (way : Str) (s c e : Int) (sd : Option Int) : D := .tuple [vlD (finV f way s c e sd), .tuple ((finG f way s c e sd).map PyData.str)]
/-- what a VALUE is turned to, its parts given -/
def ab (q : Rat) : Rat := if 0 ≤ q then q else -q
theorem ab_neg (q : Rat) : ab (-q) = ab q := by
  unfold ab
  split <;> split <;> grind
theorem wo_absP {p : P2} (hp : Can p) : wo (absP p) = ab (wo p) := by
  have hd : (0 : Rat) < (p.2 : Rat) := by exact_mod_cast hp.pos
  unfold absP ab
  by_cases h : 0 ≤ p.1
  · have : 0 ≤ wo p := by
      unfold wo
      rw [← Rat.not_lt, Rat.div_lt_iff hd, Rat.not_lt, Rat.zero_mul]
      exact_mod_cast h
    rw [if_pos this]
    unfold wo
    rw [show ((p.1.natAbs : Int)) = p.1 by omega]
  · have : ¬ 0 ≤ wo p := by
      unfold wo
      rw [Rat.not_le, Rat.div_lt_iff hd, Rat.zero_mul]
      have : p.1 < 0 := by omega
      exact_mod_cast this
    rw [if_neg this, ← wo_neg]
    unfold wo
    show (((p.1.natAbs : Int)) : Rat) / _ = ((-p.1 : Int) : Rat) / _
    rw [show ((p.1.natAbs : Int)) = -p.1 by omega]
theorem mul_le_bp {b : Int} (hb : 2 ≤ b) {c d : Int} (h : c ≤ d) (e : Int) : (c : Rat) * bp b e ≤ (d : Rat) * bp b e := by
  rw [← Rat.not_lt, Rat.mul_lt_mul_right (bp_pos hb e)]
  intro z
  have : d < c := by exact_mod_cast z
  omega
theorem mul_lt_bp {b : Int} (hb : 2 ≤ b) {c d : Int} (h : c < d) (e : Int) : (c : Rat) * bp b e < (d : Rat) * bp b e := by
  rw [Rat.mul_lt_mul_right (bp_pos hb e)]
  exact_mod_cast h
theorem num_side {f : Fm} (hf : FmOk f) {x : P2} {c e : Int} {sd : Option Int} (hp : PartAt f x c e sd) {c' e' : Int} (h : NumOk f 0 c' e') :
    (c' : Rat) * bp f.b e' ≤ (c : Rat) * bp f.b e ∨ ((c + 1 : Int) : Rat) * bp f.b e ≤ (c' : Rat) * bp f.b e' := by
  have h1 := hp.e0
  have h2 := h.e1
  have h3 := hp.c1
  have h4 : c' < f.T := h.c1
  rcases Int.lt_trichotomy e' e with z | z | z
  · left
    have q : f.F ≤ c := by
      rcases hp.cF with q | q
      · omega
      · exact q
    exact Rat.le_trans (mul_le_bp hf.b2 (by omega) _) (low_lt hf z q (show c' + 1 ≤ f.T by omega))
  · subst z
    by_cases y : c < c'
    · right
      exact mul_le_bp hf.b2 (by omega) _
    · left
      exact mul_le_bp hf.b2 (by omega) _
  · right
    have q : f.F ≤ c' := by
      rcases h.c2 with q | q
      · have q : e' = f.lo := q
        omega
      · exact q
    exact low_lt hf z q (show c + 1 ≤ f.T by omega)
theorem uN_wo {f : Fm} (hf : FmOk f) (c e : Int) : ((uN f c e).1 : Rat) * bp f.b (uN f c e).2 = ((c + 1 : Int) : Rat) * bp f.b e := by
  unfold uN
  split
  · rename_i h
    show (f.F : Rat) * bp f.b (e + 1) = _
    rw [h, bp_one hf.b2, hf.T_eq]
    push_cast
    grind
  · rfl
theorem uN_ok {f : Fm} (hf : FmOk f) {x : P2} {c e : Int} {sd : Option Int} (hp : PartAt f x c e sd) (h : (uN f c e).2 ≤ f.hi) : NumOk f 0 (uN f c e).1 (uN f c e).2 := by
  have h1 := hp.e0
  have h2 := hp.c0
  have h3 := hp.c1
  have TF := hf.TF
  have F0 := hf.F_pos
  have W0 := hf.W_pos
  unfold uN at h ⊢
  split
  · rename_i q
    rw [if_pos q] at h
    have h : e + 1 ≤ f.hi := h
    exact ⟨.inl rfl, by show f.lo ≤ e + 1; omega, h, by show 0 ≤ f.F; omega, by show f.F < f.T; omega, .inr (Int.le_refl _)⟩
  · rename_i q
    rw [if_neg q] at h
    have h : e ≤ f.hi := h
    refine ⟨.inl rfl, h1, h, by show 0 ≤ c + 1; omega, by show c + 1 < f.T; omega, ?_⟩
    rcases hp.cF with y | y
    · exact .inl y
    · exact .inr (by show f.F ≤ c + 1; omega)
theorem part_ok {f : Fm} {x : P2} {c e : Int} {sd : Option Int} (hp : PartAt f x c e sd) (h : e ≤ f.hi) : NumOk f 0 c e := ⟨.inl rfl, hp.e0, h, hp.c0, hp.c1, hp.cF⟩
/-- the greatest one, and beyond -/
theorem part_hi {f : Fm} (hf : FmOk f) {x : P2} {c e : Int} {sd : Option Int} (hp : PartAt f x c e sd) (h : wo x < (f.T : Rat) * bp f.b f.hi) : e ≤ f.hi := by
  apply Classical.byContradiction
  intro z
  have h0 := hf.lh
  have q : f.F ≤ c := by
    rcases hp.cF with q | q
    · omega
    · exact q
  have := low_lt hf (show f.hi < e by omega) q (c' := f.T - 1) (by omega)
  rw [show f.T - 1 + 1 = f.T by omega] at this
  exact absurd (Std.lt_of_le_of_lt (Rat.le_trans this hp.le) h) Rat.lt_irrefl
theorem part_top {f : Fm} (hf : FmOk f) {x : P2} {c e : Int} {sd : Option Int} (hp : PartAt f x c e sd) (h : e < f.hi) : wo x < (f.F : Rat) * bp f.b f.hi :=
  Std.lt_of_lt_of_le hp.lt (low_lt hf h (Int.le_refl _) (by have := hp.c1; omega))
def nearW (way : Str) : Prop := way = "even" ∨ way = "away"
theorem nearW.up {way : Str} (h : nearW way) (s c z : Int) : upB way s c (some z) = (if z = 0 then (decide (way = "away") || decide (c % 2 = 1)) else decide (0 < z)) := by
  show (if way = "zero" then false else if way = "up" then decide (s = 0) else if way = "down" then !decide (s = 0) else if z = 0 then (decide (way = "away") || decide (c % 2 = 1)) else decide (0 < z)) = _
  have n1 : ("even" : Str) ≠ "zero" := by decide
  have n2 : ("away" : Str) ≠ "zero" := by decide
  have n5 : ("even" : Str) ≠ "up" := by decide
  have n6 : ("even" : Str) ≠ "down" := by decide
  have n7 : ("away" : Str) ≠ "up" := by decide
  have n8 : ("away" : Str) ≠ "down" := by decide
  rcases h with rfl | rfl
  · rw [if_neg n1, if_neg n5, if_neg n6]
  · rw [if_neg n2, if_neg n7, if_neg n8]
theorem nearW.inf {way : Str} (h : nearW way) (s : Int) : infB way s = true := by
  unfold infB
  rcases h with rfl | rfl <;> simp
theorem T_even {f : Fm} (hf : FmOk f) (h : f.b % 2 = 0) : f.T % 2 = 0 ∧ f.F % 2 = 0 := by
  have p2 := hf.p2
  have key : ∀ n : Nat, (f.b ^ (n + 1)) % 2 = 0 := fun n => by
    rw [Int.pow_succ]
    exact Int.emod_eq_zero_of_dvd (Int.dvd_trans (Int.dvd_of_emod_eq_zero h) ⟨f.b ^ n, by rw [Int.mul_comm]⟩)
  refine ⟨?_, ?_⟩
  · have := key (f.p.toNat - 1)
    rwa [show f.p.toNat - 1 + 1 = f.p.toNat by omega] at this
  · have := key ((f.p - 1).toNat - 1)
    rwa [show (f.p - 1).toNat - 1 + 1 = (f.p - 1).toNat by omega] at this
/-- from the middle behind the greatest one on -/
theorem fin_over {f : Fm} (hf : FmOk f) (h2 : f.b % 2 = 0) {x : P2} {c e : Int} {sd : Option Int} (hp : PartAt f x c e sd) {way : Str} (hw : nearW way) {s : Int}
    (h : ((2 * f.T - 1 : Int) : Rat) * bp f.b f.hi ≤ 2 * wo x) : finV f way s c e sd = .inf s := by
  obtain ⟨te, fe⟩ := T_even hf h2
  have TF := hf.TF
  have F0 := hf.F_pos
  have W0 := hf.W_pos
  have h3 := hp.c1
  suffices hi : f.hi < (upC f way s c e sd).2 by
    unfold finV
    rw [if_pos hi, if_pos (hw.inf s)]
  have ge : e ≤ (upC f way s c e sd).2 := by
    unfold upC uN
    split
    · split
      · show e ≤ e + 1
        omega
      · exact Int.le_refl _
    · exact Int.le_refl _
  rcases Int.lt_trichotomy e f.hi with z | z | z
  · exfalso
    have h4 := part_top hf hp z
    have h5 := mul_le_bp hf.b2 (show 2 * f.F ≤ 2 * f.T - 1 by omega) f.hi
    push_cast at h5 h
    grind
  · subst z
    have h4 := hp.lt
    have ec : c + 1 = f.T := by
      have h6 : ((2 * f.T - 1 : Int) : Rat) * bp f.b f.hi < ((2 * c + 2 : Int) : Rat) * bp f.b f.hi := by
        push_cast at h h4 ⊢
        grind
      have := bp_lt hf.b2 Rat.le_refl h6
      omega
    have up : upB way s c sd = true := by
      have hs := hp.sd
      cases sd with
      | none =>
        exfalso
        have hs : (c : Rat) * bp f.b f.hi = wo x := hs
        have h6 : ((2 * f.T - 1 : Int) : Rat) * bp f.b f.hi ≤ ((2 * c : Int) : Rat) * bp f.b f.hi := by
          push_cast at h ⊢
          grind
        have h7 := mul_lt_bp hf.b2 (show 2 * c < 2 * f.T - 1 by omega) f.hi
        exact absurd (Std.lt_of_lt_of_le h7 h6) Rat.lt_irrefl
      | some z =>
        rw [hw.up]
        rcases hs.2 with ⟨rfl, a⟩ | ⟨rfl, a⟩ | ⟨rfl, a⟩
        · rfl
        · rw [if_pos rfl]
          simp only [Bool.or_eq_true, decide_eq_true_eq]
          right
          omega
        · exfalso
          rw [show 2 * c + 1 = 2 * f.T - 1 by omega] at a
          exact absurd (Std.lt_of_le_of_lt h a) Rat.lt_irrefl
    unfold upC uN
    rw [if_pos up, if_pos ec]
    show f.hi < f.hi + 1
    omega
  · omega
/-- what is nearest -/
structure NearTo (f : Fm) (way : Str) (x : P2) (c' e' : Int) : Prop where
  ok : NumOk f 0 c' e'
  least : ∀ c e, NumOk f 0 c e → ¬ ab ((c : Rat) * bp f.b e - wo x) < ab ((c' : Rat) * bp f.b e' - wo x)
  tie : (∀ c e, NumOk f 0 c e → ab ((c : Rat) * bp f.b e - wo x) = ab ((c' : Rat) * bp f.b e' - wo x) → c = c' ∧ e = e') ∨
    ((way = "even" → c' % 2 = 0) ∧ (way = "away" → ∀ c e, NumOk f 0 c e → ab ((c : Rat) * bp f.b e - wo x) = ab ((c' : Rat) * bp f.b e' - wo x) → (c : Rat) * bp f.b e ≤ (c' : Rat) * bp f.b e'))
theorem fin_near {f : Fm} (hf : FmOk f) (h2 : f.b % 2 = 0) {x : P2} {c e : Int} {sd : Option Int} (hp : PartAt f x c e sd) {way : Str} (hw : nearW way) {s : Int}
    (h : 2 * wo x < ((2 * f.T - 1 : Int) : Rat) * bp f.b f.hi) : ∃ c' e', finV f way s c e sd = .num s c' e' ∧ NearTo f way x c' e' := by
  obtain ⟨te, fe⟩ := T_even hf h2
  have TF := hf.TF
  have F0 := hf.F_pos
  have W0 := hf.W_pos
  have h3 := hp.c1
  have ehi : e ≤ f.hi := part_hi hf hp (by
    have := mul_lt_bp hf.b2 (show 2 * f.T - 1 < 2 * f.T by omega) f.hi
    push_cast at h this ⊢
    grind)
  have n0 := part_ok hp ehi
  have le := hp.le
  have lt := hp.lt
  have stp := mul_lt_bp hf.b2 (show c < c + 1 by omega) e
  -- below
  have down : (∀ c'' e'', NumOk f 0 c'' e'' → ¬ ab ((c'' : Rat) * bp f.b e'' - wo x) < ab ((c : Rat) * bp f.b e - wo x)) → ((∀ c'' e'', NumOk f 0 c'' e'' → ab ((c'' : Rat) * bp f.b e'' - wo x) = ab ((c : Rat) * bp f.b e - wo x) → (c'' : Rat) * bp f.b e'' = (c : Rat) * bp f.b e) ∨ way = "even" ∧ c % 2 = 0) → upB way s c sd = false → ∃ c' e', finV f way s c e sd = .num s c' e' ∧ NearTo f way x c' e' := fun a1 a2 a3 => by
    refine ⟨c, e, ?_, n0, a1, ?_⟩
    · have eu : upC f way s c e sd = (c, e) := by
        unfold upC
        rw [if_neg (by rw [a3]; decide)]
      unfold finV
      rw [eu, if_neg (by show ¬ f.hi < e; omega)]
    · rcases a2 with a2 | ⟨a2, a4⟩
      · left
        intro c'' e'' hn q
        exact num_uniq hf hn n0 (a2 c'' e'' hn q)
      · right
        exact ⟨fun _ => a4, fun z => by rw [a2] at z; exact absurd z (by decide)⟩
  have above : ((uN f c e).2 ≤ f.hi) → (∀ c'' e'', NumOk f 0 c'' e'' → ¬ ab ((c'' : Rat) * bp f.b e'' - wo x) < ab (((c + 1 : Int) : Rat) * bp f.b e - wo x)) → ((∀ c'' e'', NumOk f 0 c'' e'' → ab ((c'' : Rat) * bp f.b e'' - wo x) = ab (((c + 1 : Int) : Rat) * bp f.b e - wo x) → (c'' : Rat) * bp f.b e'' = ((c + 1 : Int) : Rat) * bp f.b e) ∨ (way = "even" → c % 2 = 1) ∧ (way = "away" → ∀ c'' e'', NumOk f 0 c'' e'' → ab ((c'' : Rat) * bp f.b e'' - wo x) = ab (((c + 1 : Int) : Rat) * bp f.b e - wo x) → (c'' : Rat) * bp f.b e'' ≤ ((c + 1 : Int) : Rat) * bp f.b e)) → upB way s c sd = true → ∃ c' e', finV f way s c e sd = .num s c' e' ∧ NearTo f way x c' e' := fun a0 a1 a2 a3 => by
    have nu := uN_ok hf hp a0
    have wu := uN_wo hf c e
    refine ⟨(uN f c e).1, (uN f c e).2, ?_, nu, ?_, ?_⟩
    · have eu : upC f way s c e sd = uN f c e := by
        unfold upC
        rw [if_pos a3]
      unfold finV
      rw [eu, if_neg (by omega)]
    · rw [wu]
      exact a1
    · rw [wu]
      rcases a2 with a2 | ⟨a2, a4⟩
      · left
        intro c'' e'' hn q
        exact num_uniq hf hn nu (by rw [wu]; exact a2 c'' e'' hn q)
      · right
        refine ⟨fun z => ?_, a4⟩
        have := a2 z
        unfold uN
        split
        · exact fe
        · show (c + 1) % 2 = 0
          omega
  have hs := hp.sd
  cases sd with
  | none =>
    have hs : (c : Rat) * bp f.b e = wo x := hs
    have z0 : ab ((c : Rat) * bp f.b e - wo x) = 0 := by
      rw [hs, Rat.sub_self]
      rfl
    refine down (fun c'' e'' hn => ?_) (.inl fun c'' e'' hn q => ?_) rfl
    · rw [z0]
      unfold ab
      split <;> grind
    · rw [z0] at q
      unfold ab at q
      split at q <;> grind
  | some z =>
    obtain ⟨lt0, hz⟩ := hs
    have a0 : ab ((c : Rat) * bp f.b e - wo x) = wo x - (c : Rat) * bp f.b e := by
      unfold ab
      split <;> grind
    have a1 : ab (((c + 1 : Int) : Rat) * bp f.b e - wo x) = ((c + 1 : Int) : Rat) * bp f.b e - wo x := by
      unfold ab
      split <;> grind
    have cas : ∀ c'' e'', NumOk f 0 c'' e'' → ((c'' : Rat) * bp f.b e'' ≤ (c : Rat) * bp f.b e ∧ ab ((c'' : Rat) * bp f.b e'' - wo x) = wo x - (c'' : Rat) * bp f.b e'') ∨ (((c + 1 : Int) : Rat) * bp f.b e ≤ (c'' : Rat) * bp f.b e'' ∧ ab ((c'' : Rat) * bp f.b e'' - wo x) = (c'' : Rat) * bp f.b e'' - wo x) := fun c'' e'' hn => by
      rcases num_side hf hp hn with q | q
      · left
        refine ⟨q, ?_⟩
        unfold ab
        split <;> grind
      · right
        refine ⟨q, ?_⟩
        unfold ab
        split <;> grind
    have two : ((2 * c + 1 : Int) : Rat) * bp f.b e = (c : Rat) * bp f.b e + ((c + 1 : Int) : Rat) * bp f.b e := by
      push_cast
      grind
    have uhi : ((2 * c + 1 : Int) : Rat) * bp f.b e ≤ 2 * wo x → (uN f c e).2 ≤ f.hi := fun q => by
      unfold uN
      split
      · rename_i hc
        show e + 1 ≤ f.hi
        rcases Int.lt_or_eq_of_le ehi with y | y
        · omega
        · exfalso
          rw [y, show 2 * c + 1 = 2 * f.T - 1 by omega] at q
          exact absurd (Std.lt_of_le_of_lt q h) Rat.lt_irrefl
      · exact ehi
    rcases hz with ⟨rfl, a⟩ | ⟨rfl, a⟩ | ⟨rfl, a⟩
    · refine above (uhi (Rat.le_of_lt a)) (fun c'' e'' hn => ?_) (.inl fun c'' e'' hn q => ?_) (by rw [hw.up]; rfl)
      · rw [a1]
        rcases cas c'' e'' hn with ⟨q1, q2⟩ | ⟨q1, q2⟩ <;> rw [q2] <;> grind
      · rw [a1] at q
        rcases cas c'' e'' hn with ⟨q1, q2⟩ | ⟨q1, q2⟩ <;> rw [q2] at q <;> grind
    · by_cases hup : upB way s c (some 0) = true
      · refine above (uhi (by rw [a]; exact Rat.le_refl)) (fun c'' e'' hn => ?_) (.inr ⟨fun z => ?_, fun _ c'' e'' hn q => ?_⟩) hup
        · rw [a1]
          rcases cas c'' e'' hn with ⟨q1, q2⟩ | ⟨q1, q2⟩ <;> rw [q2] <;> grind
        · rw [hw.up, if_pos rfl, z, Bool.or_eq_true, decide_eq_true_eq, decide_eq_true_eq] at hup
          rcases hup with hup | hup
          · exact absurd hup (by decide)
          · exact hup
        · rw [a1] at q
          rcases cas c'' e'' hn with ⟨q1, q2⟩ | ⟨q1, q2⟩ <;> rw [q2] at q <;> grind
      · have hup : upB way s c (some 0) = false := by simpa using hup
        refine down (fun c'' e'' hn => ?_) (.inr ?_) hup
        · rw [a0]
          rcases cas c'' e'' hn with ⟨q1, q2⟩ | ⟨q1, q2⟩ <;> rw [q2] <;> grind
        · rw [hw.up, if_pos rfl] at hup
          have hup : ¬ way = "away" ∧ ¬ c % 2 = 1 := by simpa using hup
          refine ⟨?_, by omega⟩
          rcases hw with q | q
          · exact q
          · exact absurd q hup.1
    · refine down (fun c'' e'' hn => ?_) (.inl fun c'' e'' hn q => ?_) (by rw [hw.up]; rfl)
      · rw [a0]
        rcases cas c'' e'' hn with ⟨q1, q2⟩ | ⟨q1, q2⟩ <;> rw [q2] <;> grind
      · rw [a0] at q
        rcases cas c'' e'' hn with ⟨q1, q2⟩ | ⟨q1, q2⟩ <;> rw [q2] at q <;> grind
/-! ### filters -/
theorem filt_one {α : Type} {p : α → Bool} {ys : List α} {a : Nat} (h : ∀ (i : Nat) (y : α), ys[i]? = some y → p y = true → i = a) : (ys.filter p).length ≤ 1 := by
  induction ys generalizing a with
  | nil => simp
  | cons y ys ih =>
    rw [List.filter_cons]
    split
    · rename_i hy
      have a0 := h 0 y rfl hy
      have : ys.filter p = [] := by
        rw [List.filter_eq_nil_iff]
        intro z hz hp
        obtain ⟨i, hi⟩ := List.getElem?_of_mem hz
        have := h (i + 1) z (by simpa using hi) hp
        omega
      simp [this]
    · exact ih (a := a - 1) fun i z hz hp => by
        have := h (i + 1) z (by simpa using hz) hp
        omega
theorem filt_last {α : Type} {p : α → Bool} {ys : List α} {b : Nat} {y : α} (hy : ys[b]? = some y) (hp : p y = true) (h : ∀ (i : Nat) (z : α), ys[i]? = some z → p z = true → i ≤ b) : (ys.filter p).getLast? = some y := by
  induction ys generalizing b with
  | nil => simp at hy
  | cons x ys ih =>
    cases b with
    | zero =>
      have : x = y := by simpa using hy
      subst this
      have : ys.filter p = [] := by
        rw [List.filter_eq_nil_iff]
        intro z hz hpz
        obtain ⟨i, hi⟩ := List.getElem?_of_mem hz
        have := h (i + 1) z (by simpa using hi) hpz
        omega
      rw [List.filter_cons, if_pos hp, this]
      rfl
    | succ b =>
      have := ih (b := b) (by simpa using hy) fun i z hz hpz => by
        have := h (i + 1) z (by simpa using hz) hpz
        omega
      rw [List.filter_cons]
      split
      · rw [List.getLast?_cons, this]
        rfl
      · exact this
theorem atI_last {α : Type} {xs : List α} {y : α} (h : xs.getLast? = some y) : L2.atI xs (-1) = some y := by
  have hne : xs ≠ [] := by
    intro z
    rw [z] at h
    cases h
  have hl : 0 < xs.length := List.length_pos_iff.mpr hne
  rw [List.getLast?_eq_getElem?] at h
  unfold L2.atI L2.ixN
  rw [if_neg (by decide), if_pos (by omega)]
  show xs[(-1 + (xs.length : Int)).toNat]? = _
  rw [show (-1 + (xs.length : Int)).toNat = xs.length - 1 by omega]
  exact h
/-! ### rounded, turned -/
def sgF (x : P2) : Int := if x.1 < 0 then 1 else 0
def RoundTo (f : Fm) (way : Str) (x : P2) (s : Int) (w : Vl) (G : List Str) : Prop :=
  (x.1 = 0 ∧ w = .num s 0 f.lo ∧ G = []) ∨ (x.1 ≠ 0 ∧ ∃ c e sd, PartAt f (absP x) c e sd ∧ w = finV f way (sgF x) c e sd ∧ G = finG f way (sgF x) c e sd)
def TurnedTo (f : Fm) (way : Str) (o : Fm) : Vl → Vl → List Str → Prop
  | .num s c e, w, G => RoundTo o way (wv f.b s c e) s w G
  | v, w, G => w = v ∧ G = []
theorem sgF01 (x : P2) : sgF x = 0 ∨ sgF x = 1 := by
  unfold sgF
  split
  · exact .inr rfl
  · exact .inl rfl
theorem sgF_wv {f : Fm} (hf : FmOk f) {s c e : Int} (h : NumOk f s c e) (hc : c ≠ 0) : sgF (wv f.b s c e) = s := by
  have q := (wv_sign hf h).2
  have hs := h.s
  unfold sgF
  split
  · rename_i z
    exact (q.mp z).1.symm
  · rename_i z
    have : ¬ s = 1 := fun y => z (q.mpr ⟨y, hc⟩)
    omega
/-- the outcome is a VALUE -/
theorem fin_vl {f : Fm} (hf : FmOk f) {x : P2} {c e : Int} {sd : Option Int} (hp : PartAt f x c e sd) {way : Str} {s : Int} (hs : s = 0 ∨ s = 1) : VlOk f (finV f way s c e sd) ∧ notNan (finV f way s c e sd) := by
  have TF := hf.TF
  have F0 := hf.F_pos
  have W0 := hf.W_pos
  unfold finV
  split
  · split
    · exact ⟨hs, trivial⟩
    · exact ⟨(⟨hs, hf.lh, Int.le_refl _, by omega, by show f.T - 1 < f.T; omega, .inr (by show f.F ≤ f.T - 1; omega)⟩ : NumOk f s (f.T - 1) f.hi), trivial⟩
  · rename_i h
    refine ⟨?_, trivial⟩
    show NumOk f s _ _
    unfold upC at h ⊢
    split
    · rename_i q
      rw [if_pos q] at h
      exact (uN_ok hf hp (by omega)).sign hs
    · rename_i q
      rw [if_neg q] at h
      exact (part_ok hp (by omega)).sign hs
theorem round_vl {f : Fm} (hf : FmOk f) {way : Str} {x : P2} {s : Int} (hs : s = 0 ∨ s = 1) {w : Vl} {G : List Str} (h : RoundTo f way x s w G) : VlOk f w ∧ notNan w := by
  rcases h with ⟨_, rfl, _⟩ | ⟨_, c, e, sd, hp, rfl, _⟩
  · exact ⟨(zeroOk hf).sign hs, trivial⟩
  · exact fin_vl hf hp (sgF01 x)
theorem round_uniq {f : Fm} (hf : FmOk f) {way : Str} {x : P2} {s : Int} {w w' : Vl} {G G' : List Str} (h : RoundTo f way x s w G) (h' : RoundTo f way x s w' G') : w = w' ∧ G = G' := by
  rcases h with ⟨z, rfl, rfl⟩ | ⟨z, c, e, sd, hp, rfl, rfl⟩
  · rcases h' with ⟨_, rfl, rfl⟩ | ⟨y, _⟩
    · exact ⟨rfl, rfl⟩
    · exact absurd z y
  · rcases h' with ⟨y, _⟩ | ⟨_, c', e', sd', hp', rfl, rfl⟩
    · exact absurd y z
    · obtain ⟨rfl, rfl, rfl⟩ := part_uniq hf hp hp'
      exact ⟨rfl, rfl⟩
theorem round_exists {f : Fm} (hf : FmOk f) {way : Str} {x : P2} {K : Nat} (hx : Fb K x) (hK : K ≤ 9700) {s : Int} : ∃ w G, RoundTo f way x s w G := by
  by_cases z : x.1 = 0
  · exact ⟨_, _, .inl ⟨z, rfl, rfl⟩⟩
  · obtain ⟨c, e, sd, hp, _⟩ := part_exists hf hx.absP hK (by show (0 : Int) ≤ (x.1.natAbs : Int); omega)
    exact ⟨_, _, .inr ⟨z, c, e, sd, hp, rfl, rfl⟩⟩
end VI

/-! PL14: rounding by the law's neighbours. -/
namespace VI
open PySem
def topP (f : Fm) : P2 := mulP (f.T - 1, 1) (powP f.b f.hi)
theorem topP_fra {f : Fm} (hf : FmOk f) : Fra 3045 (topP f) := by
  have h1 : Fb (640 + 1) (f.T - 1, 1) := Fb.int ((hf.bdT.sub (Bd.lit64 1 (by omega))).up (by decide))
  have h2 := (hf.raP hf.lh (Int.le_refl _)).fb
  exact (h1.mul h2).up (by decide)
theorem wo_topP {f : Fm} (hf : FmOk f) : wo (topP f) = ((f.T - 1 : Int) : Rat) * bp f.b f.hi := by
  unfold topP
  rw [wo_mul (can_int _) (powP_can hf.b2 _), wo_int]
  rfl
def norP (f : Fm) : P2 := powP f.b (f.lo + f.p - 1)
theorem norP_fra {f : Fm} (hf : FmOk f) : Fra 3041 (norP f) := by
  have hp := hf.p2
  have one : Bd 3041 (1 : Int) := (Bd.lit64 1 (by decide)).up (by decide)
  unfold norP
  refine ⟨powP_can hf.b2 _, ?_, ?_⟩
  · unfold powP
    split
    · rcases Int.le_total 0 f.lo with h | h
      · rw [show (f.lo + f.p - 1).toNat = f.lo.natAbs + (f.p - 1).toNat by omega, Int.pow_add]
        exact (hf.bl.mul hf.bdF).up (by decide)
      · exact (bd_pow_le hf.b2 (by omega : (f.lo + f.p - 1).toNat ≤ (f.p - 1).toNat) hf.bdF).up (by decide)
    · exact one
  · unfold powP
    split
    · exact one
    · exact (bd_pow_le hf.b2 (by omega : (-(f.lo + f.p - 1)).toNat ≤ f.lo.natAbs) hf.bl).up (by decide)
theorem wo_norP {f : Fm} (hf : FmOk f) : wo (norP f) = (f.F : Rat) * bp f.b f.lo := by
  show bp f.b (f.lo + f.p - 1) = _
  have hp := hf.p2
  have := bp_up hf.b2 f.lo (f.p - 1).toNat
  rw [show f.lo + f.p - 1 = f.lo + ((f.p - 1).toNat : Int) by omega, this]
  rfl
theorem size_top {f : Fm} (hf : FmOk f) {c e : Int} (h : NumOk f 0 c e) : (c : Rat) * bp f.b e ≤ wo (topP f) := by
  rw [wo_topP hf]
  have hT : NumOk f 0 (f.T - 1) f.hi := by
    have F2 := hf.F2
    have TF := hf.TF
    have W0 := hf.W_pos
    refine ⟨.inl rfl, hf.lh, Int.le_refl _, by omega, ?_, .inr ?_⟩
    · show f.T - 1 < f.T
      omega
    · show f.F ≤ f.T - 1
      omega
  rw [← Rat.not_lt, ← wo_sg0 hf.b2, ← wo_sg0 hf.b2, wo_rank hf hT h, rk_num (.inl rfl), rk_num (.inl rfl)]
  have := M_top hf h
  have hM : f.M (f.T - 1) f.hi = f.X - 1 := by
    unfold Fm.M Fm.X
    omega
  rw [hM]
  simp only [sg]
  simp
  omega
/-- above the top of an exponent nothing of a lesser one -/
theorem size_gap {f : Fm} (hf : FmOk f) {c e c' e' : Int} {w : Rat} (h' : NumOk f 0 c' e') (q : (c' : Rat) * bp f.b e' = w) (hF : e = f.lo ∨ f.F ≤ c) (hw : (c : Rat) * bp f.b e ≤ w) : e ≤ e' := by
  apply Classical.byContradiction
  intro z
  have hl := h'.e1
  have hF : f.F ≤ c := by rcases hF with y | y; omega; exact y
  have e1 := bp_split hf.b2 (show e' + 1 ≤ e by omega)
  rw [← q, e1, bp_one hf.b2] at hw
  have e2 : (c : Rat) * (((f.b ^ (e - (e' + 1)).toNat : Int) : Rat) * ((f.b : Rat) * bp f.b e')) = ((c * f.b * f.b ^ (e - (e' + 1)).toNat : Int) : Rat) * bp f.b e' := by
    push_cast
    grind
  rw [e2] at hw
  have hp := bp_pos hf.b2 e'
  have hw' : ¬ ((c' : Int) : Rat) * bp f.b e' < ((c * f.b * f.b ^ (e - (e' + 1)).toNat : Int) : Rat) * bp f.b e' := Rat.not_lt.mpr hw
  rw [Rat.mul_lt_mul_right hp] at hw'
  have hlt : c' < c * f.b * f.b ^ (e - (e' + 1)).toNat := by
    have h1 : c' < f.T := h'.c1
    have hT := hf.T_eq
    have hb := hf.b2
    have p := powI_pos hf.b2 (e - (e' + 1)).toNat
    have F0 := hf.F_pos
    have a1 : f.F * f.b ≤ c * f.b := Int.mul_le_mul_of_nonneg_right hF (by omega)
    rw [Int.mul_comm f.F, ← hT] at a1
    have a2 := Int.mul_le_mul_of_nonneg_left (show (1 : Int) ≤ f.b ^ (e - (e' + 1)).toNat by omega) (show (0 : Int) ≤ c * f.b by have := hf.XF; have := hf.TF; have := hf.W_pos; omega)
    omega
  exact hw' (by exact_mod_cast hlt)
/-- the floor of a number is itself -/
theorem size_floor {f : Fm} (hf : FmOk f) {c e c' e' : Int} {w : Rat} (q : (c' : Rat) * bp f.b e' = w) (he : e ≤ e') (h1 : (c : Rat) * bp f.b e ≤ w) (h2 : w < ((c + 1 : Int) : Rat) * bp f.b e) : (c : Rat) * bp f.b e = w := by
  rw [bp_split hf.b2 he] at q
  have e1 : ((c' * f.b ^ (e' - e).toNat : Int) : Rat) * bp f.b e = w := by
    rw [← q]
    push_cast
    grind
  rw [← e1] at h1 h2 ⊢
  have a := bp_lt hf.b2 (c := c' * f.b ^ (e' - e).toNat) (Rat.le_refl) h2
  have b := bp_lt hf.b2 (c := c) (t := c' * f.b ^ (e' - e).toNat + 1) h1 (by
    rw [Rat.mul_lt_mul_right (bp_pos hf.b2 e)]
    have : c' * f.b ^ (e' - e).toNat < c' * f.b ^ (e' - e).toNat + 1 := by omega
    exact_mod_cast this)
  have : c = c' * f.b ^ (e' - e).toNat := by omega
  rw [this]

/-! ### bounds -/
theorem part_powK {f : Fm} (hf : FmOk f) {x : P2} {K : Nat} (hx : Fb K x) {c0 e0 : Int} {sd : Option Int} (hp : PartAt f x c0 e0 sd) : Bd (K + 2400) (f.b ^ (max 0 e0).toNat) := by
  obtain ⟨n, d⟩ := x
  have i1 := hf.b2
  have hd : 0 < d := hx.pos
  have pe0 := hp.e0
  have hbl := hf.bl
  rcases Int.lt_or_eq_of_le pe0 with z | z
  · have hF : f.F ≤ c0 := by
      rcases hp.cF with q | q
      · omega
      · exact q
    have F0 := hf.F_pos
    have key := (wo_ge i1 (n := n) (d := d) hd c0 e0).mp hp.le
    by_cases hz : 0 ≤ e0
    · rw [show (max 0 (-e0)).toNat = 0 by omega, Int.pow_zero, Int.mul_one] at key
      have pp := powI_pos i1 (max 0 e0).toNat
      have h1 : 1 * (d * f.b ^ (max 0 e0).toNat) ≤ c0 * (d * f.b ^ (max 0 e0).toNat) := Int.mul_le_mul_of_nonneg_right (by omega) (Int.mul_nonneg (by omega) (by omega))
      have h2 : 1 * f.b ^ (max 0 e0).toNat ≤ d * f.b ^ (max 0 e0).toNat := Int.mul_le_mul_of_nonneg_right (by omega) (by omega)
      exact (hx.b1.of_natAbs (show (f.b ^ (max 0 e0).toNat).natAbs ≤ n.natAbs by omega)).up (by omega)
    · rw [show (max 0 e0).toNat = 0 by omega, Int.pow_zero]
      exact (Bd.lit64 1 (by decide)).up (by omega)
  · have := bd_pow_le i1 (show (max 0 e0).toNat ≤ f.lo.natAbs by omega) hbl
    exact this.up (by omega)
theorem part_powF {f : Fm} (hf : FmOk f) {x : P2} {K : Nat} (hx : Fb K x) {c0 e0 : Int} {sd : Option Int} (hp : PartAt f x c0 e0 sd) : Can (powP f.b e0) ∧ Bd (K + 2400) (powP f.b e0).1 ∧ Bd 2400 (powP f.b e0).2 := by
  have bE := part_powK hf hx hp
  have pe0 := hp.e0
  refine ⟨powP_can hf.b2 _, ?_, ?_⟩
  · unfold powP
    split
    · rw [show max 0 e0 = e0 by omega] at bE
      exact bE
    · exact (Bd.lit64 1 (by decide)).up (by omega)
  · unfold powP
    split
    · exact (Bd.lit64 1 (by decide)).up (by decide)
    · exact (bd_pow_le hf.b2 (show (-e0).toNat ≤ f.lo.natAbs by omega) hf.bl).up (by decide)
theorem wv0 (b c e : Int) : wv b 0 c e = mulP (c, 1) (powP b e) := by
  unfold wv
  simp
theorem part_half {f : Fm} (hf : FmOk f) {x : P2} {K : Nat} (hx : Fb K x) {c0 e0 : Int} {sd : Option Int} (hp : PartAt f x c0 e0 sd) {c' : Int} (h0 : 0 ≤ c') (h1 : c' ≤ c0 + 1) : Can (wv f.b 0 c' e0) ∧ Bd (K + 3100) (wv f.b 0 c' e0).1 ∧ Bd 2464 (wv f.b 0 c' e0).2 := by
  obtain ⟨p1, p2, p3⟩ := part_powF hf hx hp
  have h2 := hp.c1
  have bc : Bd 641 c' := (hf.bdT.of_natAbs (show c'.natAbs ≤ f.T.natAbs by omega)).up (by decide)
  refine ⟨wv_can hf.b2 _ _ _, ?_, ?_⟩
  · rw [wv0]
    exact Bd.up (Bd.nrm1 (bc.mul p2)) (by omega)
  · rw [wv0]
    exact Bd.up (Bd.nrm2 ((Bd.lit64 1 (by decide)).mul p3)) (by omega)
/-! ### the law's neighbours -/
def upc (c : Int) (sd : Option Int) : Int := if sd.isSome = true then c + 1 else c
def upN (way : Str) (c : Int) : Option Int → Bool
  | none => false
  | some z => if way = "zero" ∨ way = "lower" then false else if way = "upper" then true else if z = 0 then (decide (way = "away") || decide (c % 2 = 1)) else decide (0 < z)
def nearC (way : Str) (c : Int) (sd : Option Int) : Int := if upN way c sd = true then c + 1 else c
def ways5N : List Str := ["zero", "lower", "upper", "even", "away"]
theorem part_nn {f : Fm} (hf : FmOk f) {x : P2} {c e : Int} {sd : Option Int} (hp : PartAt f x c e sd) : 0 ≤ c := hp.c0
theorem upN_some {way : Str} {c : Int} {sd : Option Int} (h : upN way c sd = true) : sd.isSome = true := by
  cases sd with
  | none => cases h
  | some z => rfl
/-- rounded exactly or not -/
theorem near_ne {f : Fm} (hf : FmOk f) {x : P2} (hx : Can x) {c e : Int} {sd : Option Int} (hp : PartAt f x c e sd) (way : Str) : (wv f.b 0 (nearC way c sd) e = x ↔ sd = none) := by
  have w := wo_sg0 hf.b2 (nearC way c sd) e
  constructor
  · intro q
    cases sd with
    | none => rfl
    | some z =>
      exfalso
      rw [q] at w
      have lt := hp.sd.1
      have gt := hp.lt
      unfold nearC at w
      split at w <;> (rw [w] at lt gt; first | exact Rat.lt_irrefl lt | exact Rat.lt_irrefl gt)
  · intro q
    subst q
    have ex : (c : Rat) * bp f.b e = wo x := hp.sd
    refine wo_eq (wv_can hf.b2 _ _ _) hx ?_
    rw [w, ← ex]
    rfl
theorem tiny_iff {f : Fm} (hf : FmOk f) {x : P2} {c e : Int} {sd : Option Int} (hp : PartAt f x c e sd) : wo x < wo (norP f) ↔ c < f.F := by
  rw [wo_norP hf]
  have e0 := hp.e0
  constructor
  · intro q
    apply Classical.byContradiction
    intro z
    have h1 := mul_le_bp hf.b2 (show f.F ≤ c by omega) e
    have h2 : (f.F : Rat) * bp f.b f.lo ≤ (f.F : Rat) * bp f.b e := by
      rw [bp_split hf.b2 e0]
      have p := powI_pos hf.b2 (e - f.lo).toNat
      have e3 : (f.F : Rat) * (((f.b ^ (e - f.lo).toNat : Int) : Rat) * bp f.b f.lo) = ((f.F * f.b ^ (e - f.lo).toNat : Int) : Rat) * bp f.b f.lo := by
        push_cast
        grind
      rw [e3]
      refine mul_le_bp hf.b2 ?_ _
      have F0 := hf.F_pos
      have := Int.mul_le_mul_of_nonneg_left (show (1 : Int) ≤ f.b ^ (e - f.lo).toNat by omega) (show (0 : Int) ≤ f.F by omega)
      omega
    exact absurd (Std.lt_of_lt_of_le q (Rat.le_trans h2 (Rat.le_trans h1 hp.le))) Rat.lt_irrefl
  · intro q
    have el : e = f.lo := by
      rcases hp.cF with y | y
      · exact y
      · omega
    subst el
    exact Std.lt_of_lt_of_le hp.lt (mul_le_bp hf.b2 (by omega) _)
theorem upC_wo {f : Fm} (hf : FmOk f) (way : Str) (s c e : Int) (sd : Option Int) : ((upC f way s c e sd).1 : Rat) * bp f.b (upC f way s c e sd).2 = ((if upB way s c sd = true then c + 1 else c : Int) : Rat) * bp f.b e := by
  unfold upC
  split
  · exact uN_wo hf c e
  · rfl
theorem upC_ok {f : Fm} (hf : FmOk f) {x : P2} {c e : Int} {sd : Option Int} (hp : PartAt f x c e sd) {way : Str} {s : Int} (h : (upC f way s c e sd).2 ≤ f.hi) : NumOk f 0 (upC f way s c e sd).1 (upC f way s c e sd).2 := by
  unfold upC at h ⊢
  split
  · rename_i q
    rw [if_pos q] at h
    exact uN_ok hf hp h
  · rename_i q
    rw [if_neg q] at h
    exact part_ok hp h
theorem over_iff {f : Fm} (hf : FmOk f) {x : P2} {c e : Int} {sd : Option Int} (hp : PartAt f x c e sd) (way : Str) (s : Int) : wo (topP f) < ((if upB way s c sd = true then c + 1 else c : Int) : Rat) * bp f.b e ↔ f.hi < (upC f way s c e sd).2 := by
  rw [← upC_wo hf]
  constructor
  · intro q
    apply Classical.byContradiction
    intro z
    have := size_top hf (upC_ok hf hp (way := way) (s := s) (by omega))
    exact absurd (Std.lt_of_lt_of_le q this) Rat.lt_irrefl
  · intro q
    have l0 := hf.lh
    have F1 : f.F ≤ (upC f way s c e sd).1 := by
      unfold upC uN at q ⊢
      split
      · rename_i y
        rw [if_pos y] at q
        split
        · exact Int.le_refl _
        · rename_i w
          rw [if_neg w] at q
          have q : f.hi < e := q
          show f.F ≤ c + 1
          rcases hp.cF with v | v <;> omega
      · rename_i y
        rw [if_neg y] at q
        have q : f.hi < e := q
        show f.F ≤ c
        rcases hp.cF with v | v <;> omega
    have h1 := low_lt hf q F1 (c' := f.T - 1) (by omega)
    rw [show f.T - 1 + 1 = f.T by omega] at h1
    rw [wo_topP hf]
    exact Std.lt_of_lt_of_le (mul_lt_bp hf.b2 (show f.T - 1 < f.T by omega) _) h1
/-- a number's parts -/
theorem num_part {f : Fm} (hf : FmOk f) {c e : Int} (h : NumOk f 0 c e) : PartAt f (wv f.b 0 c e) c e none := by
  have w := wo_sg0 hf.b2 c e
  have e2 := h.e2
  have hi := hf.h
  refine ⟨h.e1, by omega, h.c0, h.c1, h.c2, by rw [w]; exact Rat.le_refl, by rw [w]; exact mul_lt_bp hf.b2 (by omega) _, ?_⟩
  show _ = _
  rw [w]
theorem top_ok {f : Fm} (hf : FmOk f) : NumOk f 0 (f.T - 1) f.hi := by
  have TF := hf.TF
  have F0 := hf.F_pos
  have W0 := hf.W_pos
  exact ⟨.inl rfl, hf.lh, Int.le_refl _, by omega, by show f.T - 1 < f.T; omega, .inr (by show f.F ≤ f.T - 1; omega)⟩
/-- what comes, whichever x is -/
theorem round_fin {f : Fm} (hf : FmOk f) {x : P2} (hx : Can x) {c e : Int} {sd : Option Int} (hp : PartAt f (absP x) c e sd) (way : Str) (s : Int) : RoundTo f way x s (finV f way (if x.1 = 0 then s else sgF x) c e sd) (finG f way (if x.1 = 0 then s else sgF x) c e sd) := by
  by_cases z : x.1 = 0
  · rw [if_pos z]
    have w0 : wo (absP x) = 0 := by
      unfold wo absP
      rw [z]
      show ((0 : Int) : Rat) / _ = 0
      rw [Rat.div_def]
      simp
    have c0 := hp.c0
    have ez : ((0 : Int) : Rat) * bp f.b e = 0 := by simp
    have cz : c = 0 := by
      have le := hp.le
      rw [w0] at le
      apply Classical.byContradiction
      intro y
      have := mul_lt_bp hf.b2 (show 0 < c by omega) e
      rw [ez] at this
      exact absurd (Std.lt_of_lt_of_le this le) Rat.lt_irrefl
    subst cz
    have sz : sd = none := by
      cases sd with
      | none => rfl
      | some y =>
        have := hp.sd.1
        rw [w0, ez] at this
        exact absurd this Rat.lt_irrefl
    subst sz
    have el : e = f.lo := by
      have F0 := hf.F_pos
      rcases hp.cF with y | y
      · exact y
      · omega
    subst el
    have lh := hf.lh
    refine .inl ⟨z, ?_, ?_⟩
    · unfold finV
      rw [if_neg (by show ¬ f.hi < f.lo; omega)]
      rfl
    · unfold finG
      rw [if_neg (by show ¬ f.hi < f.lo; omega), if_neg (fun y => by cases y.1), if_pos (show (none : Option Int).isNone = true from rfl)]
  · rw [if_neg z]
    exact .inr ⟨z, c, e, sd, hp, rfl, rfl⟩
/-- the words of what goes over -/
theorem srt_io {ts ys : List Str} (h : SrtOf ts ys) (ht : ∀ t, t ∈ ts ↔ t = "inexact" ∨ t = "over") : ys = ([Str.ofString "inexact", Str.ofString "over"] : List Str) := by
  obtain ⟨h1, h2, h3⟩ := h
  have pm : ys.Perm ([Str.ofString "inexact", Str.ofString "over"] : List Str) := (List.perm_ext_iff_of_nodup h2 (by decide)).mpr fun t => by
    rw [h3, ht]
    simp
  have hl := pm.length_eq
  match ys, hl with
  | [a, b], _ =>
    have a1 : a = "inexact" ∨ a = "over" := by simpa using (pm.mem_iff (a := a)).mp (by simp)
    have b1 : b = "inexact" ∨ b = "over" := by simpa using (pm.mem_iff (a := b)).mp (by simp)
    have ne : a ≠ b := fun z => by
      subst z
      simp at h2
    rcases a1 with rfl | rfl <;> rcases b1 with rfl | rfl
    · exact absurd rfl ne
    · rfl
    · exact absurd h1 (by decide)
    · exact absurd rfl ne
def finF (f : Fm) (c : Int) (sd : Option Int) : List Str := if sd.isSome = true then (if c < f.F then ["inexact", "tiny"] else ["inexact"]) else []
theorem finG_in {f : Fm} {way : Str} {s c e : Int} {sd : Option Int} (h : ¬ f.hi < (upC f way s c e sd).2) : finG f way s c e sd = finF f c sd := by
  unfold finG finF
  rw [if_neg h]
  cases sd with
  | none =>
    rw [if_neg (fun z => by cases z.1), if_pos (show (none : Option Int).isNone = true from rfl), if_neg (by decide)]
  | some z =>
    rw [if_pos (show (some z : Option Int).isSome = true from rfl)]
    by_cases q : c < f.F
    · rw [if_pos ⟨rfl, q⟩, if_pos q]
    · rw [if_neg (fun y => q y.2), if_neg (by simp), if_neg q]
theorem over_big {f : Fm} (hf : FmOk f) {x : P2} {c e : Int} {sd : Option Int} (hp : PartAt f x c e sd) {way : Str} {s : Int} (h : f.hi < (upC f way s c e sd).2) : ¬ c < f.F := by
  intro z
  have TF := hf.TF
  have W0 := hf.W_pos
  have el : e = f.lo := by
    rcases hp.cF with y | y
    · exact y
    · omega
  have lh := hf.lh
  unfold upC uN at h
  split at h
  · rw [if_neg (by omega)] at h
    have h : f.hi < e := h
    omega
  · have h : f.hi < e := h
    omega
theorem topP_wv (f : Fm) : topP f = wv f.b 0 (f.T - 1) f.hi := (wv0 _ _ _).symm
end VI

/-! PL15: the formats that the laws draw. -/
namespace VI
open PySem
def fmS : List Fm := [⟨2, 2, 0, 0⟩, ⟨2, 2, -3, 2⟩, ⟨2, 3, -4, 3⟩, ⟨4, 2, -2, 1⟩, ⟨10, 2, -2, 1⟩, ⟨6, 2, -1, 2⟩, ⟨2, 4, -2, 2⟩, ⟨4, 2, 1, 3⟩, ⟨2, 3, 2, 5⟩, ⟨10, 2, -6, -5⟩]
def fmW : List Fm := [⟨2, 24, -149, 104⟩, ⟨2, 11, -24, 5⟩, ⟨10, 7, -101, 90⟩, ⟨36, 3, -5, 4⟩, ⟨16, 6, -70, 57⟩, ⟨10, 34, -60, 40⟩, ⟨2, 8, -133, 120⟩, ⟨20, 2, 0, 3⟩, ⟨10, 16, -98, 69⟩, ⟨2, 53, -120, 60⟩, ⟨10, 20, 5, 60⟩, ⟨2, 30, -90, -40⟩, ⟨14, 5, -9, 9⟩, ⟨22, 4, 1, 8⟩]
def fmV : List Fm := [⟨2, 53, -1074, 971⟩, ⟨10, 16, -398, 369⟩, ⟨36, 120, -200, 200⟩, ⟨2, 120, -1200, 1080⟩, ⟨10, 100, -700, 700⟩, ⟨2, 24, -1200, 1200⟩, ⟨2, 40, -300, 300⟩, ⟨10, 16, -300, 300⟩]
/-- a format of those that are drawn -/
def fmA : List Fm := fmS ++ (fmW ++ fmV)
theorem fm_of {l : List Fm} {c : Fm → Bool} (h : l.all c = true) {f : Fm} (hf : f ∈ l) : c f = true := List.all_eq_true.mp h f hf
theorem mem_fm {l : List Fm} {y : D} (h : y ∈ l.map fmD) : ∃ f, y = fmD f ∧ f ∈ l := by
  obtain ⟨f, hf, rfl⟩ := List.mem_map.mp h
  exact ⟨f, rfl, hf⟩
theorem fmA_ok {f : Fm} (h : f ∈ fmA) : FmOk f := fmOk_of (fm_of (c := fmB) (by decide +kernel) h)
theorem fmS_A {f : Fm} (h : f ∈ fmS) : f ∈ fmA := List.mem_append_left _ h
theorem fmW_A {f : Fm} (h : f ∈ fmW) : f ∈ fmA := List.mem_append_right _ (List.mem_append_left _ h)
theorem fmV_A {f : Fm} (h : f ∈ fmV) : f ∈ fmA := List.mem_append_right _ (List.mem_append_right _ h)
theorem fmS_ok {f : Fm} (h : f ∈ fmS) : FmOk f ∧ f.X ≤ 1000 ∧ FmOk f.w4 ∧ f.w4.X ≤ 1000 ∧ f.b % 2 = 0 := by
  have q := fm_of (c := fun f => decide (f.X ≤ 1000) && (fmB f.w4 && (decide (f.w4.X ≤ 1000) && decide (f.b % 2 = 0)))) (by decide +kernel) h
  simp only [Bool.and_eq_true, decide_eq_true_eq] at q
  exact ⟨fmA_ok (fmS_A h), q.1, fmOk_of q.2.1, q.2.2.1, q.2.2.2⟩
/-- wider, for half-way points -/
def Fm.hw (f : Fm) : Fm := ⟨f.b, min 120 (f.p + 2), max (-1200) (f.lo - 2), min 1200 (f.hi + 3)⟩
theorem fmA_hw {f : Fm} (h : f ∈ fmA) : FmOk f.hw := fmOk_of (fm_of (c := fun f => fmB f.hw) (by decide +kernel) h)
/-- the ends of what is drawn are not far -/
theorem fmA_hi {f : Fm} (h : f ∈ fmA) : f.hi ≤ 1200 ∧ -1200 ≤ f.lo := by
  have q := fm_of (c := fun f => decide (f.hi ≤ 1200) && decide (-1200 ≤ f.lo)) (by decide +kernel) h
  simp only [Bool.and_eq_true, decide_eq_true_eq] at q
  exact q
/-! ### outcomes -/
theorem turned_uniq {f o : Fm} (ho : FmOk o) {way : Str} {v : Vl} {w w' : Vl} {G G' : List Str} (h : TurnedTo f way o v w G) (h' : TurnedTo f way o v w' G') : w = w' ∧ G = G' := by
  cases v with
  | num s c e => exact round_uniq ho h h'
  | inf s => exact ⟨h.1.trans h'.1.symm, h.2.trans h'.2.symm⟩
  | nan => exact ⟨h.1.trans h'.1.symm, h.2.trans h'.2.symm⟩
def flags4 : List (List Str) := [[], ["inexact"], ["inexact", "tiny"], ["inexact", "over"]]
theorem finG_mem (f : Fm) (way : Str) (s c e : Int) (sd : Option Int) : finG f way s c e sd ∈ flags4 := by
  unfold finG
  split
  · simp [flags4]
  · split
    · simp [flags4]
    · split <;> simp [flags4]
theorem round_fl {f : Fm} {way : Str} {x : P2} {s : Int} {w : Vl} {G : List Str} (h : RoundTo f way x s w G) : G ∈ flags4 := by
  rcases h with ⟨_, _, rfl⟩ | ⟨_, c, e, sd, _, _, rfl⟩
  · simp [flags4]
  · exact finG_mem ..
theorem turned_fl {f o : Fm} {way : Str} {v w : Vl} {G : List Str} (h : TurnedTo f way o v w G) : G ∈ flags4 := by
  cases v with
  | num s c e => exact round_fl h
  | inf s => rw [h.2]; simp [flags4]
  | nan => rw [h.2]; simp [flags4]
theorem turned_vl {f o : Fm} (ho : FmOk o) {way : Str} {v w : Vl} {G : List Str} (hv : VlOk f v) (h : TurnedTo f way o v w G) : VlOk o w := by
  cases v with
  | num s c e => exact (round_vl ho (show s = 0 ∨ s = 1 from hv.s) h).1
  | inf s => rw [h.1]; exact hv
  | nan => rw [h.1]; trivial
theorem fit_fl {G : List Str} (h : G ∈ flags4) : Fit 2 10000 (.tuple (G.map PyData.str)) := by
  have i : Fit 1 4310 (.str "inexact") := ⟨by decide +kernel, by decide +kernel, by decide +kernel, by decide +kernel⟩
  have t : Fit 1 4310 (.str "tiny") := ⟨by decide +kernel, by decide +kernel, by decide +kernel, by decide +kernel⟩
  have o : Fit 1 4310 (.str "over") := ⟨by decide +kernel, by decide +kernel, by decide +kernel, by decide +kernel⟩
  simp only [flags4, List.mem_cons, List.not_mem_nil, or_false] at h
  rcases h with rfl | rfl | rfl | rfl
  · exact (Fit.tup (k := 1) (w := 4310) all_nil).up (by decide) (by simp)
  · exact (Fit.tup (all_cons i all_nil)).up (by decide) (by simp)
  · exact (Fit.tup (all_cons i (all_cons t all_nil))).up (by decide) (by simp)
  · exact (Fit.tup (all_cons i (all_cons o all_nil))).up (by decide) (by simp)
theorem out_fit {f : Fm} (hf : FmOk f) {w : Vl} (hw : VlOk f w) {G : List Str} (hG : G ∈ flags4) : Fit 3 37000 (.tuple [vlD w, .tuple (G.map PyData.str)]) :=
  (Fit.tup (k := 2) (w := 18000) (all_cons (fit_vl hf hw) (all_cons ((fit_fl hG).up (by decide) (by decide)) all_nil))).up (by decide) (by simp)
end VI

/-! PL16: sums, products, quotients. -/
namespace VI
open PySem
def oppV : Vl → Vl
  | .nan => .nan
  | .inf s => .inf (1 - s)
  | .num s c e => .num (1 - s) c e
theorem opp_ok {f : Fm} {v : Vl} (h : VlOk f v) : VlOk f (oppV v) := by
  cases v with
  | nan => trivial
  | inf s =>
    have h : s = 0 ∨ s = 1 := h
    show 1 - s = 0 ∨ 1 - s = 1
    omega
  | num s c e =>
    have h : NumOk f s c e := h
    have hs := h.s
    exact (⟨by omega, h.e1, h.e2, h.c0, h.c1, h.c2⟩ : NumOk f (1 - s) c e)
/-- what stands for itself, with flags -/
def Out0 (v : Vl) (F : List Str) (w : Vl) (G : List Str) : Prop := w = v ∧ G = F
def sumS (way : Str) (s t : Int) : Int := if s = t then s else if way = "down" then 1 else 0
def SumTo (f : Fm) (way : Str) : Vl → Vl → Vl → List Str → Prop
  | .nan, _ => Out0 .nan []
  | _, .nan => Out0 .nan []
  | .inf s, .inf t => if s = t then Out0 (.inf s) [] else Out0 .nan ["invalid"]
  | .inf s, _ => Out0 (.inf s) []
  | _, .inf t => Out0 (.inf t) []
  | .num s c e, .num t c' e' => RoundTo f way (addP (wv f.b s c e) (wv f.b t c' e')) (sumS way s t)
def prodS (s t : Int) : Int := if s = t then 0 else 1
def ProdTo (f : Fm) (way : Str) : Vl → Vl → Vl → List Str → Prop
  | .nan, _ => Out0 .nan []
  | _, .nan => Out0 .nan []
  | .inf s, .inf t => Out0 (.inf (prodS s t)) []
  | .inf s, .num t c e => if c = 0 then Out0 .nan ["invalid"] else Out0 (.inf (prodS s t)) []
  | .num s c e, .inf t => if c = 0 then Out0 .nan ["invalid"] else Out0 (.inf (prodS s t)) []
  | .num s c e, .num t c' e' => RoundTo f way (mulP (wv f.b s c e) (wv f.b t c' e')) (prodS s t)
def QuoTo (f : Fm) (way : Str) : Vl → Vl → Vl → List Str → Prop
  | .nan, _ => Out0 .nan []
  | _, .nan => Out0 .nan []
  | .inf _, .inf _ => Out0 .nan ["invalid"]
  | .inf s, .num t _ _ => Out0 (.inf (prodS s t)) []
  | .num s _ _, .inf t => Out0 (.num (prodS s t) 0 f.lo) []
  | .num s c e, .num t c' e' => if c' = 0 then (if c = 0 then Out0 .nan ["invalid"] else Out0 (.inf (prodS s t)) ["by"]) else RoundTo f way (divP (wv f.b s c e) (wv f.b t c' e')) (prodS s t)
theorem out0_uniq {v w w' : Vl} {F G G' : List Str} (h : Out0 v F w G) (h' : Out0 v F w' G') : w = w' ∧ G = G' := ⟨h.1.trans h'.1.symm, h.2.trans h'.2.symm⟩
theorem addP_comm (p q : P2) : addP p q = addP q p := by
  unfold addP
  rw [Int.add_comm (p.1 * q.2), Int.mul_comm p.2]
theorem mulP_comm (p q : P2) : mulP p q = mulP q p := by
  unfold mulP
  rw [Int.mul_comm p.1, Int.mul_comm p.2]
theorem sumS_comm (way : Str) (s t : Int) : sumS way s t = sumS way t s := by
  unfold sumS
  by_cases h : s = t
  · subst h
    rfl
  · have h' : ¬ t = s := fun z => h z.symm
    rw [if_neg h, if_neg h']
theorem prodS_comm (s t : Int) : prodS s t = prodS t s := by
  unfold prodS
  by_cases h : s = t
  · rw [if_pos h, if_pos h.symm]
  · rw [if_neg h, if_neg fun z => h z.symm]
theorem sum_comm {f : Fm} {way : Str} {x y w : Vl} {G : List Str} (h : SumTo f way x y w G) : SumTo f way y x w G := by
  cases x <;> cases y <;> try exact h
  · rename_i s c e t c' e'
    show RoundTo f way _ _ w G
    rw [addP_comm, sumS_comm]
    exact h
  · rename_i s t
    show (if t = s then Out0 (.inf t) [] else Out0 .nan ["invalid"]) w G
    have h : (if s = t then Out0 (.inf s) [] else Out0 .nan ["invalid"]) w G := h
    by_cases z : s = t
    · subst z
      exact h
    · rw [if_neg z] at h
      rw [if_neg fun y => z y.symm]
      exact h
theorem prod_comm {f : Fm} {way : Str} {x y w : Vl} {G : List Str} (h : ProdTo f way x y w G) : ProdTo f way y x w G := by
  cases x <;> cases y <;> try exact h
  · rename_i s c e t c' e'
    show RoundTo f way _ _ w G
    rw [mulP_comm, prodS_comm]
    exact h
  · rename_i s c e t
    show (if c = 0 then Out0 .nan ["invalid"] else Out0 (.inf (prodS t s)) []) w G
    rw [prodS_comm]
    exact h
  · rename_i s t c e
    show (if c = 0 then Out0 .nan ["invalid"] else Out0 (.inf (prodS t s)) []) w G
    rw [prodS_comm]
    exact h
  · rename_i s t
    show Out0 (.inf (prodS t s)) [] w G
    rw [prodS_comm]
    exact h
/-! ### each is one VALUE with known flags -/
def flags6 : List (List Str) := ["invalid"] :: ["by"] :: flags4
structure OneOut (f : Fm) (R : Vl → List Str → Prop) : Prop where
  uniq : ∀ w G w' G', R w G → R w' G' → w = w' ∧ G = G'
  vl : ∀ w G, R w G → VlOk f w
  fl : ∀ w G, R w G → G ∈ flags6
theorem one_round {f : Fm} (hf : FmOk f) {way : Str} {x : P2} {s : Int} (hs : s = 0 ∨ s = 1) : OneOut f (RoundTo f way x s) :=
  ⟨fun w G w' G' h h' => round_uniq hf h h', fun w G h => (round_vl hf hs h).1, fun w G h => List.mem_cons_of_mem _ (List.mem_cons_of_mem _ (round_fl h))⟩
theorem one_out0 {f : Fm} {v : Vl} (hv : VlOk f v) {F : List Str} (hF : F ∈ flags6) : OneOut f (Out0 v F) :=
  ⟨fun w G w' G' h h' => out0_uniq h h', fun w G h => by rw [h.1]; exact hv, fun w G h => by rw [h.2]; exact hF⟩
theorem sumS01 {way : Str} {s t : Int} (hs : s = 0 ∨ s = 1) : sumS way s t = 0 ∨ sumS way s t = 1 := by
  unfold sumS
  split
  · exact hs
  · split
    · exact .inr rfl
    · exact .inl rfl
theorem prodS01 (s t : Int) : prodS s t = 0 ∨ prodS s t = 1 := by
  unfold prodS
  split
  · exact .inl rfl
  · exact .inr rfl
theorem one_sum {f : Fm} (hf : FmOk f) {way : Str} {x y : Vl} (hx : VlOk f x) (hy : VlOk f y) : OneOut f (SumTo f way x y) := by
  have n0 : OneOut f (Out0 .nan []) := one_out0 (show VlOk f .nan from trivial) (by simp [flags6, flags4])
  have n1 : OneOut f (Out0 .nan ["invalid"]) := one_out0 (show VlOk f .nan from trivial) (by simp [flags6, flags4])
  cases x <;> cases y <;> try exact n0
  · exact one_round hf (sumS01 hx.s)
  · exact one_out0 hy (by simp [flags6, flags4])
  · exact one_out0 hx (by simp [flags6, flags4])
  · rename_i s t
    show OneOut f (if s = t then Out0 (.inf s) [] else Out0 .nan ["invalid"])
    split
    · exact one_out0 hx (by simp [flags6, flags4])
    · exact n1
theorem one_prod {f : Fm} (hf : FmOk f) {way : Str} {x y : Vl} (hx : VlOk f x) (hy : VlOk f y) : OneOut f (ProdTo f way x y) := by
  have n0 : OneOut f (Out0 .nan []) := one_out0 (show VlOk f .nan from trivial) (by simp [flags6, flags4])
  have n1 : OneOut f (Out0 .nan ["invalid"]) := one_out0 (show VlOk f .nan from trivial) (by simp [flags6, flags4])
  have i0 : ∀ s t, OneOut f (Out0 (.inf (prodS s t)) []) := fun s t => one_out0 (show VlOk f (.inf _) from prodS01 s t) (by simp [flags6, flags4])
  cases x <;> cases y <;> try exact n0
  · exact one_round hf (prodS01 _ _)
  · rename_i s c e t
    show OneOut f (if c = 0 then Out0 .nan ["invalid"] else Out0 (.inf (prodS s t)) [])
    split
    · exact n1
    · exact i0 _ _
  · rename_i s t c e
    show OneOut f (if c = 0 then Out0 .nan ["invalid"] else Out0 (.inf (prodS s t)) [])
    split
    · exact n1
    · exact i0 _ _
  · exact i0 _ _
theorem one_quo {f : Fm} (hf : FmOk f) {way : Str} {x y : Vl} (hx : VlOk f x) (hy : VlOk f y) : OneOut f (QuoTo f way x y) := by
  have n0 : OneOut f (Out0 .nan []) := one_out0 (show VlOk f .nan from trivial) (by simp [flags6, flags4])
  have n1 : OneOut f (Out0 .nan ["invalid"]) := one_out0 (show VlOk f .nan from trivial) (by simp [flags6, flags4])
  have i0 : ∀ s t, OneOut f (Out0 (.inf (prodS s t)) []) := fun s t => one_out0 (show VlOk f (.inf _) from prodS01 s t) (by simp [flags6, flags4])
  cases x <;> cases y <;> try exact n0
  · rename_i s c e t c' e'
    show OneOut f (if c' = 0 then (if c = 0 then Out0 .nan ["invalid"] else Out0 (.inf (prodS s t)) ["by"]) else RoundTo f way (divP (wv f.b s c e) (wv f.b t c' e')) (prodS s t))
    split
    · split
      · exact n1
      · exact one_out0 (show VlOk f (.inf _) from prodS01 s t) (by simp [flags6, flags4])
    · exact one_round hf (prodS01 _ _)
  · rename_i s c e t
    exact one_out0 (show VlOk f (.num _ _ _) from (zeroOk hf).sign (prodS01 s t)) (by simp [flags6, flags4])
  · exact i0 _ _
  · exact n1
theorem fit_fl6 {G : List Str} (h : G ∈ flags6) : Fit 2 10000 (.tuple (G.map PyData.str)) := by
  have i : Fit 1 4310 (.str "invalid") := ⟨by decide +kernel, by decide +kernel, by decide +kernel, by decide +kernel⟩
  have t : Fit 1 4310 (.str "by") := ⟨by decide +kernel, by decide +kernel, by decide +kernel, by decide +kernel⟩
  rcases List.mem_cons.mp h with rfl | h
  · exact (Fit.tup (all_cons i all_nil)).up (by decide) (by simp)
  · rcases List.mem_cons.mp h with rfl | h
    · exact (Fit.tup (all_cons t all_nil)).up (by decide) (by simp)
    · exact fit_fl h
theorem OneOut.fit {f : Fm} (hf : FmOk f) {R : Vl → List Str → Prop} (o : OneOut f R) {w : Vl} {G : List Str} (h : R w G) : Fit 3 37000 (.tuple [vlD w, .tuple (G.map PyData.str)]) :=
  (Fit.tup (k := 2) (w := 18000) (all_cons (fit_vl hf (o.vl _ _ h)) (all_cons ((fit_fl6 (o.fl _ _ h)).up (by decide) (by decide)) all_nil))).up (by decide) (by simp)
theorem fit_fm {f : Fm} (hf : FmOk f) : Fit 2 18000 (fmD f) := by
  have h1 := hf.b2
  have h2 := hf.b36
  have h3 := hf.p2
  have h4 := hf.p120
  have h5 := hf.lh
  have h6 := hf.l
  have h7 := hf.h
  have e : ∀ i : Int, i.natAbs ≤ 2000 → Fit 1 4310 (.int i) := fun i h => (Fit.bd (Bd.lit64 i (by omega)) (by decide)).up (by decide) (by decide)
  exact (Fit.tup (k := 1) (w := 4310) (all_cons (e _ (by omega)) (all_cons (e _ (by omega)) (all_cons (e _ (by omega)) (all_cons (e _ (by omega)) all_nil))))).up (by decide) (by simp)
/-- bounds of what is reckoned of two NUMBERS -/
theorem add_fra {f : Fm} (hf : FmOk f) {s c e t c' e' : Int} (h : NumOk f s c e) (h' : NumOk f t c' e') : Fra 6401 (addP (wv f.b s c e) (wv f.b t c' e')) := (wv_fra hf h).add (wv_fra hf h')
theorem mul_fra {f : Fm} (hf : FmOk f) {s c e t c' e' : Int} (h : NumOk f s c e) (h' : NumOk f t c' e') : Fra 6400 (mulP (wv f.b s c e) (wv f.b t c' e')) := (wv_fra hf h).fb.mul (wv_fra hf h').fb
theorem div_fra {f : Fm} (hf : FmOk f) {s c e t c' e' : Int} (h : NumOk f s c e) (h' : NumOk f t c' e') (hc : c' ≠ 0) : Fra 6400 (divP (wv f.b s c e) (wv f.b t c' e')) := by
  have a := wv_fra hf h
  have b := wv_fra hf h'
  exact Fra.nrm (mul_ne a.ne ((wv_sign hf h').1.mpr hc)) (a.b1.mul b.b2) (a.b2.mul b.b1)
end VI

/-! PL17: products added to, small formats. -/
namespace VI
open PySem
def zerV : Vl → Bool
  | .num _ c _ => decide (c = 0)
  | _ => false
def FusTo (f : Fm) (way : Str) (x y z : Vl) : Vl → List Str → Prop :=
  match x, y, z with
  | .nan, _, _ => Out0 .nan []
  | _, .nan, _ => Out0 .nan []
  | _, _, .nan => Out0 .nan []
  | .inf s, .inf t, z => SumTo f way (.inf (prodS s t)) z
  | .inf s, .num t c _, z => if c = 0 then Out0 .nan ["invalid"] else SumTo f way (.inf (prodS s t)) z
  | .num s c _, .inf t, z => if c = 0 then Out0 .nan ["invalid"] else SumTo f way (.inf (prodS s t)) z
  | .num _ _ _, .num _ _ _, .inf u => Out0 (.inf u) []
  | .num s c e, .num t c' e', .num u c2 e2 => RoundTo f way (addP (mulP (wv f.b s c e) (wv f.b t c' e')) (wv f.b u c2 e2)) (sumS way (prodS s t) u)
theorem one_fus {f : Fm} (hf : FmOk f) {way : Str} {x y z : Vl} (hx : VlOk f x) (hy : VlOk f y) (hz : VlOk f z) : OneOut f (FusTo f way x y z) := by
  have n0 : OneOut f (Out0 .nan []) := one_out0 (show VlOk f .nan from trivial) (by simp [flags6, flags4])
  have n1 : OneOut f (Out0 .nan ["invalid"]) := one_out0 (show VlOk f .nan from trivial) (by simp [flags6, flags4])
  have i0 : ∀ s t, OneOut f (SumTo f way (.inf (prodS s t)) z) := fun s t => one_sum hf (show VlOk f (.inf _) from prodS01 s t) hz
  cases x with
  | nan => cases y <;> cases z <;> exact n0
  | inf s =>
    cases y with
    | nan => cases z <;> exact n0
    | inf t =>
      cases z with
      | nan => exact n0
      | inf u => exact i0 s t
      | num u c2 e2 => exact i0 s t
    | num t c e =>
      have key : OneOut f (if c = 0 then Out0 .nan ["invalid"] else SumTo f way (.inf (prodS s t)) z) := by
        split
        · exact n1
        · exact i0 s t
      cases z with
      | nan => exact n0
      | inf u => exact key
      | num u c2 e2 => exact key
  | num s c e =>
    cases y with
    | nan => cases z <;> exact n0
    | inf t =>
      have key : OneOut f (if c = 0 then Out0 .nan ["invalid"] else SumTo f way (.inf (prodS s t)) z) := by
        split
        · exact n1
        · exact i0 s t
      cases z with
      | nan => exact n0
      | inf u => exact key
      | num u c2 e2 => exact key
    | num t c' e' =>
      cases z with
      | nan => exact n0
      | inf u => exact one_out0 hz (by simp [flags6, flags4])
      | num u c2 e2 => exact one_round hf (sumS01 (prodS01 s t))
/-- the worths of a format are short -/
def WvB (f : Fm) (k : Nat) : Prop := ∀ s c e, NumOk f s c e → Fra k (wv f.b s c e)
theorem wvB_small {f : Fm} (hf : FmOk f) (h1 : -20 ≤ f.lo) (h2 : f.hi ≤ 20) : WvB f 800 := fun s c e hn => by
  have i1 := hf.b2
  have i2 := hf.b36
  have e1 := hn.e1
  have e2 := hn.e2
  have c1 : c < f.T := hn.c1
  have c0 := hn.c0
  have bb : Bd 6 f.b := by unfold Bd; omega
  have one : Bd 130 (1 : Int) := (Bd.lit64 1 (by decide)).up (by decide)
  have fe : Fra 130 (powP f.b e) := by
    refine ⟨powP_can i1 _, ?_, ?_⟩
    · unfold powP
      split
      · exact (bb.pow _).up (by omega)
      · exact one
    · unfold powP
      split
      · exact one
      · exact (bb.pow _).up (by omega)
  have fc : Fb 641 ((c, 1) : P2) := Fb.int (k := 640) ((hf.bdT.of_natAbs (show c.natAbs ≤ f.T.natAbs by omega)).up (by decide))
  have fm := (fc.mul fe.fb).up (show 641 + 130 ≤ 800 by decide)
  unfold wv
  split
  · exact fm.neg
  · exact fm
end VI

/-! PL18: rounding by going through. -/
namespace VI
open PySem
theorem tgt_var {tb : Tb} {i : Nat} {ev : EV} {env : En} {b : IS} {st : Sto} {K : KS} (h : semS tb b (put env i ev) st K) : (sem tb (.var i)).a ev env fun env' => semS tb b env' st K := h
def Fm.w5 (f : Fm) : Fm := ⟨f.b, f.p, f.lo, f.hi + 5⟩
theorem fmS_w5 {f : Fm} (h : f ∈ fmS) : FmOk f.w5 ∧ f.w5.X ≤ 1000 := by
  have q := fm_of (c := fun f => fmB f.w5 && decide (f.w5.X ≤ 1000)) (by decide +kernel) h
  simp only [Bool.and_eq_true, decide_eq_true_eq] at q
  exact ⟨fmOk_of q.1, q.2⟩
def onD (b : Int) : D → D
  | .tuple [_, _, .int c, .int e] => .tuple [dF (wv b 0 c e), .int c, .int e]
  | d => d
/-- not above a fraction; not below it -/
def pL (b : Int) (x : P2) : D → Bool
  | .tuple [_, _, .int c, .int e] => !decide (x.1 * (wv b 0 c e).2 < (wv b 0 c e).1 * x.2)
  | _ => false
def pU (b : Int) (x : P2) : D → Bool
  | .tuple [_, _, .int c, .int e] => !decide ((wv b 0 c e).1 * x.2 < x.1 * (wv b 0 c e).2)
  | _ => false
theorem filt_first {α : Type} {p : α → Bool} {ys : List α} {b : Nat} {y : α} (hy : ys[b]? = some y) (hp : p y = true) (h : ∀ (i : Nat) (z : α), ys[i]? = some z → p z = true → b ≤ i) : (ys.filter p).head? = some y := by
  induction ys generalizing b with
  | nil => simp at hy
  | cons x ys ih =>
    cases b with
    | zero =>
      have : x = y := by simpa using hy
      subst this
      rw [List.filter_cons, if_pos hp]
      rfl
    | succ b =>
      have hx : ¬ p x = true := fun q => by
        have := h 0 x rfl q
        omega
      rw [List.filter_cons, if_neg hx]
      exact ih (b := b) (by simpa using hy) fun i z hz hpz => by
        have := h (i + 1) z (by simpa using hz) hpz
        omega
section
variable {f : Fm} {ys : List D} {x : P2} {c e : Int} {sd : Option Int}
theorem nums_nth (hf : FmOk f) (hn : NumsAt f ys) (hl : ys.length = f.X.toNat) {cc ee : Int} (hok : NumOk f 0 cc ee) : ys[(f.M cc ee).toNat]? = some (vlD (.num 0 cc ee)) := by
  have m0 := M_nn hf hok
  have m1 := M_top hf hok
  have hlt : (f.M cc ee).toNat < ys.length := by omega
  obtain ⟨c2, e2, h1, h2, h3⟩ := hn _ _ (List.getElem?_eq_getElem hlt)
  have : c2 = cc ∧ e2 = ee := by
    have a := M_lt hf h2 hok
    have a' := M_lt hf hok h2
    have h3 : f.M c2 e2 = f.M cc ee := by rw [h3]; omega
    rcases Int.lt_trichotomy e2 ee with z | z | z
    · have := a.1 z
      omega
    · have := a.2 z
      have := a'.2 z.symm
      exact ⟨by omega, z⟩
    · have := a'.1 z
      omega
  rw [List.getElem?_eq_getElem hlt, h1, this.1, this.2]
theorem M_le_wo (hf : FmOk f) {c e c' e' : Int} (h : NumOk f 0 c e) (h' : NumOk f 0 c' e') : (f.M c e ≤ f.M c' e' ↔ (c : Rat) * bp f.b e ≤ (c' : Rat) * bp f.b e') := by
  have wr := wo_rank hf h' h
  rw [wo_sg0 hf.b2, wo_sg0 hf.b2, rk_num (.inl rfl), rk_num (.inl rfl)] at wr
  simp only [sg] at wr
  rw [← Rat.not_lt, wr]
  simp
theorem pL_iff (hb : 2 ≤ f.b) (hx : Can x) (c e : Int) : pL f.b x (vlD (.num 0 c e)) = true ↔ (c : Rat) * bp f.b e ≤ wo x := by
  show (!decide (x.1 * (wv f.b 0 c e).2 < (wv f.b 0 c e).1 * x.2)) = true ↔ _
  rw [Bool.not_eq_true', decide_eq_false_iff_not, below_iff hx (wv_can hb _ _ _), wo_sg0 hb, Rat.not_lt]
theorem pU_iff (hb : 2 ≤ f.b) (hx : Can x) (c e : Int) : pU f.b x (vlD (.num 0 c e)) = true ↔ wo x ≤ (c : Rat) * bp f.b e := by
  show (!decide ((wv f.b 0 c e).1 * x.2 < x.1 * (wv f.b 0 c e).2)) = true ↔ _
  rw [Bool.not_eq_true', decide_eq_false_iff_not, below_iff (wv_can hb _ _ _) hx, wo_sg0 hb, Rat.not_lt]
/-- the last one not above -/
theorem ones_low (hf : FmOk f) (hn : NumsAt f ys) (hl : ys.length = f.X.toNat) (hx : Can x) (hp : PartAt f x c e sd) (he : e ≤ f.hi) : (ys.filter (pL f.b x)).getLast? = some (vlD (.num 0 c e)) := by
  have n0 := part_ok hp he
  refine filt_last (nums_nth hf hn hl n0) ((pL_iff hf.b2 hx c e).mpr hp.le) fun i z hz hpz => ?_
  obtain ⟨cc, ee, rfl, hok, hM⟩ := hn i z hz
  have le := (pL_iff hf.b2 hx cc ee).mp hpz
  have q : (cc : Rat) * bp f.b ee ≤ (c : Rat) * bp f.b e := by
    rcases num_side hf hp hok with q | q
    · exact q
    · exact absurd (Std.lt_of_lt_of_le hp.lt (Rat.le_trans q le)) Rat.lt_irrefl
  have := (M_le_wo hf hok n0).mpr q
  have := M_nn hf n0
  omega
/-- the first one not below -/
theorem ones_up (hf : FmOk f) (hn : NumsAt f ys) (hl : ys.length = f.X.toNat) (hx : Can x) (hp : PartAt f x c e sd) {cU eU : Int} (hU : NumOk f 0 cU eU) (h1 : wo x ≤ (cU : Rat) * bp f.b eU) (h2 : ∀ cc ee, NumOk f 0 cc ee → wo x ≤ (cc : Rat) * bp f.b ee → (cU : Rat) * bp f.b eU ≤ (cc : Rat) * bp f.b ee) : (ys.filter (pU f.b x)).head? = some (vlD (.num 0 cU eU)) := by
  refine filt_first (nums_nth hf hn hl hU) ((pU_iff hf.b2 hx cU eU).mpr h1) fun i z hz hpz => ?_
  obtain ⟨cc, ee, rfl, hok, hM⟩ := hn i z hz
  have q := h2 cc ee hok ((pU_iff hf.b2 hx cc ee).mp hpz)
  have := (M_le_wo hf hU hok).mpr q
  omega
theorem ones_none (hf : FmOk f) (hn : NumsAt f ys) (hx : Can x) (h : ∀ cc ee, NumOk f 0 cc ee → ¬ wo x ≤ (cc : Rat) * bp f.b ee) : ys.filter (pU f.b x) = [] := by
  rw [List.filter_eq_nil_iff]
  intro z hz hpz
  obtain ⟨i, hi⟩ := List.getElem?_of_mem hz
  obtain ⟨cc, ee, rfl, hok, hM⟩ := hn i z hi
  exact h cc ee hok ((pU_iff hf.b2 hx cc ee).mp hpz)
/-- what the two are, or nothing above -/
theorem ones_both (hf : FmOk f) (hn : NumsAt f ys) (hl : ys.length = f.X.toNat) (hx : Can x) (hp : PartAt f x c e sd) :
    (ys.filter (pU f.b x) = [] ∧ ∃ y, (ys.filter (pL f.b x)).getLast? = some y ∧ y ∈ ys) ∨
    ∃ cU eU, (ys.filter (pL f.b x)).getLast? = some (vlD (.num 0 c e)) ∧ (ys.filter (pU f.b x)).head? = some (vlD (.num 0 cU eU)) ∧ NumOk f 0 c e ∧ NumOk f 0 cU eU ∧ wv f.b 0 cU eU = wv f.b 0 (upc c sd) e := by
  have TF := hf.TF
  have F0 := hf.F_pos
  have W0 := hf.W_pos
  have last : ∃ y, (ys.filter (pL f.b x)).getLast? = some y ∧ y ∈ ys := by
    have z0 := nums_nth hf hn hl (zeroOk hf)
    have hz : pL f.b x (vlD (.num 0 0 f.lo)) = true := (pL_iff hf.b2 hx 0 f.lo).mpr (by
      have c0 := hp.c0
      have e1 := mul_le_bp hf.b2 (show 0 ≤ c by omega) e
      have ez : ∀ e, ((0 : Int) : Rat) * bp f.b e = 0 := fun e => by simp
      rw [ez] at e1 ⊢
      exact Rat.le_trans e1 hp.le)
    have hm : vlD (.num 0 0 f.lo) ∈ ys.filter (pL f.b x) := List.mem_filter.mpr ⟨List.mem_of_getElem? z0, hz⟩
    have hne : ys.filter (pL f.b x) ≠ [] := fun q => by rw [q] at hm; cases hm
    refine ⟨_, List.getLast?_eq_some_getLast hne, ?_⟩
    exact (List.mem_filter.mp (List.getLast_mem hne)).1
  by_cases he : e ≤ f.hi
  · have n0 := part_ok hp he
    have lo1 := ones_low hf hn hl hx hp he
    cases sd with
    | none =>
      right
      have ex : (c : Rat) * bp f.b e = wo x := hp.sd
      exact ⟨c, e, lo1, ones_up hf hn hl hx hp n0 (by rw [ex]; exact Rat.le_refl) (fun cc ee _ h => by rw [ex]; exact h), n0, n0, rfl⟩
    | some z =>
      by_cases hu : (uN f c e).2 ≤ f.hi
      · right
        have nu := uN_ok hf hp hu
        have wu := uN_wo hf c e
        refine ⟨_, _, lo1, ones_up hf hn hl hx hp nu (by rw [wu]; exact Rat.le_of_lt hp.lt) (fun cc ee hok h => ?_), n0, nu, ?_⟩
        · rw [wu]
          rcases num_side hf hp hok with q | q
          · exact absurd (Std.lt_of_lt_of_le hp.sd.1 (Rat.le_trans h q)) Rat.lt_irrefl
          · exact q
        · refine wo_eq (wv_can hf.b2 _ _ _) (wv_can hf.b2 _ _ _) ?_
          rw [wo_sg0 hf.b2, wo_sg0 hf.b2, wu]
          rfl
      · left
        refine ⟨ones_none hf hn hx fun cc ee hok h => ?_, last⟩
        rcases num_side hf hp hok with q | q
        · exact absurd (Std.lt_of_lt_of_le hp.sd.1 (Rat.le_trans h q)) Rat.lt_irrefl
        · -- beyond the greatest one
          have hT := size_top hf hok
          rw [wo_topP hf] at hT
          have hc : c + 1 = f.T ∧ e = f.hi := by
            unfold uN at hu
            split at hu
            · rename_i y
              have hu : ¬ e + 1 ≤ f.hi := hu
              exact ⟨y, by omega⟩
            · exact absurd he hu
          have q2 := Rat.le_trans q hT
          rw [hc.1, hc.2] at q2
          exact absurd (Std.lt_of_lt_of_le (mul_lt_bp hf.b2 (show f.T - 1 < f.T by omega) f.hi) q2) Rat.lt_irrefl
  · left
    refine ⟨ones_none hf hn hx fun cc ee hok h => ?_, last⟩
    have hT := size_top hf hok
    rw [wo_topP hf] at hT
    have Fc : f.F ≤ c := by
      have := hf.lh
      rcases hp.cF with q | q
      · omega
      · exact q
    have h1 := low_lt hf (show f.hi < e by omega) Fc (c' := f.T - 1) (by omega)
    rw [show f.T - 1 + 1 = f.T by omega] at h1
    have h2 := Rat.le_trans h1 (Rat.le_trans hp.le (Rat.le_trans h hT))
    exact absurd (Std.lt_of_lt_of_le (mul_lt_bp hf.b2 (show f.T - 1 < f.T by omega) f.hi) h2) Rat.lt_irrefl
/-- the one with a worth -/
theorem ones_its (hf : FmOk f) (hn : NumsAt f ys) (hl : ys.length = f.X.toNat) {c' e' : Int} (hok : NumOk f 0 c' e') {p : D → Bool} (hp : ∀ cc ee, NumOk f 0 cc ee → (p (vlD (.num 0 cc ee)) = true ↔ wv f.b 0 cc ee = wv f.b 0 c' e')) : (ys.filter p).head? = some (vlD (.num 0 c' e')) := by
  refine filt_first (nums_nth hf hn hl hok) ((hp _ _ hok).mpr rfl) fun i z hz hpz => ?_
  obtain ⟨cc, ee, rfl, hk, hM⟩ := hn i z hz
  have q := (hp _ _ hk).mp hpz
  obtain ⟨rfl, rfl⟩ := num_uniq hf hk hok (by rw [← wo_sg0 hf.b2, ← wo_sg0 hf.b2, q])
  omega
end
theorem part_w5 {f : Fm} {x : P2} {c e : Int} {sd : Option Int} (hp : PartAt f x c e sd) : PartAt f.w5 x c e sd := ⟨hp.e0, hp.e1, hp.c0, hp.c1, hp.cF, hp.le, hp.lt, hp.sd⟩
theorem num_w5 {f : Fm} {s c e : Int} (h : NumOk f s c e) : NumOk f.w5 s c e := ⟨h.s, h.e1, by have := h.e2; show e ≤ f.hi + 5; omega, h.c0, h.c1, h.c2⟩
end VI

/-! PL19: the greatest errors. -/
namespace VI
open PySem
def overB (f : Fm) (way : Str) (s c e : Int) (sd : Option Int) : Bool := decide (f.hi < (upC f way s c e sd).2)
theorem fin_words {f : Fm} {way : Str} {s c e : Int} {sd : Option Int} : (overB f way s c e sd = true → finG f way s c e sd = ([Str.ofString "inexact", Str.ofString "over"] : List Str)) ∧
    (overB f way s c e sd = false → finG f way s c e sd = [] ∨ finG f way s c e sd = ([Str.ofString "inexact"] : List Str) ∨ finG f way s c e sd = ([Str.ofString "inexact", Str.ofString "tiny"] : List Str)) := by
  refine ⟨fun h => if_pos (of_decide_eq_true h), fun h => ?_⟩
  rw [finG_in (of_decide_eq_false h)]
  unfold finF
  split
  · split
    · exact .inr (.inr rfl)
    · exact .inr (.inl rfl)
  · exact .inl rfl
/-- the sign of the opposite of what is from 0 on -/
def sE (x : P2) : Int := if x.1 = 0 then 0 else 1
theorem round_pos {f : Fm} (hf : FmOk f) {x : P2} (hx : Can x) (h0 : 0 ≤ x.1) {c e : Int} {sd : Option Int} (hp : PartAt f x c e sd) {way : Str} {w : Vl} {G : List Str} (r : RoundTo f way x 0 w G) : w = finV f way 0 c e sd ∧ G = finG f way 0 c e sd := by
  have ea : absP x = x := by
    show ((x.1.natAbs : Int), x.2) = x
    rw [show (x.1.natAbs : Int) = x.1 by omega]
  have q := round_fin hf hx (by rw [ea]; exact hp) way 0
  have es : (if x.1 = 0 then (0 : Int) else sgF x) = 0 := by
    unfold sgF
    split
    · rfl
    · rw [if_neg (by omega)]
  rw [es] at q
  exact round_uniq hf r q
theorem round_neg {f : Fm} (hf : FmOk f) {x : P2} (hx : Can x) (h0 : 0 ≤ x.1) {c e : Int} {sd : Option Int} (hp : PartAt f x c e sd) {way : Str} {w : Vl} {G : List Str} (r : RoundTo f way (-x.1, x.2) 0 w G) : w = finV f way (sE x) c e sd ∧ G = finG f way (sE x) c e sd := by
  have ea : absP (-x.1, x.2) = x := by
    show (((-x.1).natAbs : Int), x.2) = x
    rw [show ((-x.1).natAbs : Int) = x.1 by omega]
  have q := round_fin hf (can_neg hx) (by rw [ea]; exact hp) way 0
  have es : (if (-x.1, x.2).1 = 0 then (0 : Int) else sgF (-x.1, x.2)) = sE x := by
    unfold sgF sE
    show (if -x.1 = 0 then (0 : Int) else if -x.1 < 0 then 1 else 0) = _
    by_cases z : x.1 = 0
    · rw [if_pos (by omega), if_pos z]
    · rw [if_neg (by omega), if_neg z, if_pos (by omega)]
  rw [es] at q
  exact round_uniq hf r q
def isNear (way : Str) : Bool := decide (way = "even") || decide (way = "away")
def halfP (p : P2) : P2 := mulP p (1, 2)
def errD (f : Fm) (way : Str) (x : P2) (c e : Int) (sd : Option Int) : D :=
  if overB f way 0 c e sd = true then .none else if overB f way (sE x) c e sd = true then .none else if isNear way = true then dF (halfP (powP f.b e)) else dF (powP f.b e)
/-- not over at a size: not over below it -/
theorem over_mono {f : Fm} (hf : FmOk f) {x y : P2} {c e c' e' : Int} {sd sd' : Option Int} (hp : PartAt f x c e sd) (hq : PartAt f y c' e' sd') (h : wo y ≤ wo x) {way : Str} {s : Int} (ho : overB f way s c' e' sd' = true) : overB f way s c e sd = true := by
  have ho : f.hi < (upC f way s c' e' sd').2 := of_decide_eq_true ho
  refine decide_eq_true ?_
  have TF := hf.TF
  have F0 := hf.F_pos
  have W0 := hf.W_pos
  have l0 := hf.lh
  have ge : ∀ c e sd, e ≤ (upC f way s c e sd).2 := fun c e sd => by
    unfold upC uN
    split
    · split
      · show e ≤ e + 1
        omega
      · exact Int.le_refl _
    · exact Int.le_refl _
  -- the exponent does not fall
  have ee : e' ≤ e := by
    apply Classical.byContradiction
    intro z
    have Fc : f.F ≤ c' := by
      have := hp.e0
      rcases hq.cF with q | q
      · omega
      · exact q
    have := low_lt hf (show e < e' by omega) Fc (c' := c) (by have := hp.c1; omega)
    exact absurd (Std.lt_of_lt_of_le hp.lt (Rat.le_trans this (Rat.le_trans hq.le h))) Rat.lt_irrefl
  by_cases h1 : f.hi < e'
  · have := ge c e sd
    omega
  · by_cases h2 : f.hi < e
    · have := ge c e sd
      omega
    · -- both in the last row: c' = T - 1 and raised
      have up : upB way s c' sd' = true ∧ c' + 1 = f.T ∧ e' = f.hi := by
        unfold upC uN at ho
        split at ho
        · rename_i u
          split at ho
          · rename_i v
            have ho : f.hi < e' + 1 := ho
            exact ⟨u, v, by omega⟩
          · exact absurd ho h1
        · exact absurd ho h1
      obtain ⟨u1, u2, u3⟩ := up
      have e1 : e = e' := by omega
      subst e1
      have cc : c = c' := by
        have := bp_lt hf.b2 (Rat.le_trans hq.le h) hp.lt
        have := hp.c1
        omega
      subst cc
      have up2 : upB way s c sd = true := by
        have s1 := hp.sd
        have s2 := hq.sd
        cases sd' with
        | none => cases u1
        | some z' =>
          have lt := Std.lt_of_lt_of_le s2.1 h
          cases sd with
          | none =>
            have s1 : (c : Rat) * bp f.b e = wo x := s1
            rw [s1] at lt
            exact absurd lt Rat.lt_irrefl
          | some z =>
            have two : ((2 * c + 1 : Int) : Rat) * bp f.b e = 2 * ((c : Rat) * bp f.b e) + bp f.b e := by
              push_cast
              grind
            have zz : z' ≤ z := by
              rcases s1.2 with ⟨rfl, a⟩ | ⟨rfl, a⟩ | ⟨rfl, a⟩ <;> rcases s2.2 with ⟨rfl, a'⟩ | ⟨rfl, a'⟩ | ⟨rfl, a'⟩ <;> first | omega | (exfalso; grind)
            have u1 : (if way = "zero" then false else if way = "up" then decide (s = 0) else if way = "down" then !decide (s = 0) else if z' = 0 then (decide (way = "away") || decide (c % 2 = 1)) else decide (0 < z')) = true := u1
            show (if way = "zero" then false else if way = "up" then decide (s = 0) else if way = "down" then !decide (s = 0) else if z = 0 then (decide (way = "away") || decide (c % 2 = 1)) else decide (0 < z)) = true
            by_cases a1 : way = "zero"
            · rw [if_pos a1] at u1
              cases u1
            rw [if_neg a1] at u1 ⊢
            by_cases a2 : way = "up"
            · rw [if_pos a2] at u1 ⊢
              exact u1
            rw [if_neg a2] at u1 ⊢
            by_cases a3 : way = "down"
            · rw [if_pos a3] at u1 ⊢
              exact u1
            rw [if_neg a3] at u1 ⊢
            by_cases z1 : z' = 0
            · rw [if_pos z1] at u1
              by_cases z0 : z = 0
              · rw [if_pos z0]
                exact u1
              · rw [if_neg z0]
                exact decide_eq_true (by omega)
            · rw [if_neg z1] at u1
              have u1 := of_decide_eq_true u1
              rw [if_neg (by omega)]
              exact decide_eq_true (by omega)
      unfold upC uN
      rw [if_pos up2, if_pos u2]
      show f.hi < e + 1
      omega
/-- how far what is told is from what is rounded -/
theorem err_le {f : Fm} (hf : FmOk f) {x : P2} {c e : Int} {sd : Option Int} (hp : PartAt f x c e sd) {way : Str} {s : Int} : ab (((if upB way s c sd = true then c + 1 else c : Int) : Rat) * bp f.b e - wo x) ≤ bp f.b e ∧
    (isNear way = true → 2 * ab (((if upB way s c sd = true then c + 1 else c : Int) : Rat) * bp f.b e - wo x) ≤ bp f.b e) := by
  have bp0 := bp_pos hf.b2 e
  have c1 : ((c + 1 : Int) : Rat) * bp f.b e = (c : Rat) * bp f.b e + bp f.b e := by
    push_cast
    grind
  have two : ((2 * c + 1 : Int) : Rat) * bp f.b e = 2 * ((c : Rat) * bp f.b e) + bp f.b e := by
    push_cast
    grind
  have le := hp.le
  have lt := hp.lt
  have s1 := hp.sd
  rw [c1] at lt
  refine ⟨?_, fun hn => ?_⟩
  · unfold ab
    split <;> split <;> grind
  · have hw : nearW way := by
      unfold isNear at hn
      simp only [Bool.or_eq_true, decide_eq_true_eq] at hn
      exact hn
    cases sd with
    | none =>
      have s1 : (c : Rat) * bp f.b e = wo x := s1
      have : upB way s c none = false := rfl
      rw [if_neg (by rw [this]; decide), s1, Rat.sub_self]
      show 2 * ab 0 ≤ _
      have : ab 0 = 0 := rfl
      rw [this]
      grind
    | some z =>
      rw [hw.up]
      rcases s1.2 with ⟨rfl, a⟩ | ⟨rfl, a⟩ | ⟨rfl, a⟩
      · rw [if_pos (by rw [if_neg (by decide)]; rfl), c1]
        unfold ab
        split <;> grind
      · unfold ab
        split <;> split <;> grind
      · rw [if_neg (by rw [if_neg (by decide)]; decide)]
        unfold ab
        split <;> grind
end VI

/-! PL20: errors of what is rounded below a size. -/
namespace VI
open PySem
theorem wo_disF {b : Int} (hb : 2 ≤ b) {x : P2} (hx : Can x) (c e : Int) : wo (absP (subP (wv b (sgF x) c e) x)) = ab ((c : Rat) * bp b e - wo (absP x)) := by
  rw [wo_absP (can_sub (wv_can hb _ _ _) hx), wo_sub (wv_can hb _ _ _) hx, wo_wv hb]
  by_cases z : x.1 < 0
  · have e1 : wo x = -wo (absP x) := by
      rw [← wo_neg]
      congr 1
      show x = (-(x.1.natAbs : Int), x.2)
      rw [show -(x.1.natAbs : Int) = x.1 by omega]
    have e2 : sgF x = 1 := if_pos z
    rw [e1, e2, ← ab_neg]
    congr 1
    simp only [sg, if_pos]
    push_cast
    grind
  · have e1 : wo x = wo (absP x) := by
      congr 1
      show x = ((x.1.natAbs : Int), x.2)
      rw [show (x.1.natAbs : Int) = x.1 by omega]
    have e2 : sgF x = 0 := if_neg z
    rw [e1, e2]
    simp [sg]
theorem bp_mono {b : Int} (hb : 2 ≤ b) {e e' : Int} (h : e ≤ e') : bp b e ≤ bp b e' := by
  rw [bp_split hb h]
  have p := powI_pos hb (e' - e).toNat
  have := mul_le_bp hb (show (1 : Int) ≤ b ^ (e' - e).toNat by omega) e
  have e1 : ((1 : Int) : Rat) * bp b e = bp b e := by simp
  rw [e1] at this
  exact this
theorem part_le_e {f : Fm} (hf : FmOk f) {x y : P2} {c e c' e' : Int} {sd sd' : Option Int} (hp : PartAt f x c e sd) (hq : PartAt f y c' e' sd') (h : wo y ≤ wo x) : e' ≤ e := by
  apply Classical.byContradiction
  intro z
  have Fc : f.F ≤ c' := by
    have := hp.e0
    rcases hq.cF with q | q
    · omega
    · exact q
  have := low_lt hf (show e < e' by omega) Fc (c' := c) (by have := hp.c1; omega)
  exact absurd (Std.lt_of_lt_of_le hp.lt (Rat.le_trans this (Rat.le_trans hq.le h))) Rat.lt_irrefl
def dueP (f : Fm) (way : Str) (e : Int) : P2 := if isNear way = true then halfP (powP f.b e) else powP f.b e
theorem wo_half {p : P2} (hp : Can p) : 2 * wo (halfP p) = wo p := by
  unfold halfP
  have c2 : Can ((1, 2) : P2) := ⟨by decide, by decide⟩
  rw [wo_mul hp c2]
  have : wo ((1, 2) : P2) = (1 : Rat) / 2 := rfl
  rw [this]
  grind
theorem below_err {f : Fm} (hf : FmOk f) {x q : P2} (hx : Can x) (hq : Can q) (h0 : 0 ≤ x.1) {c e : Int} {sd : Option Int} (hp : PartAt f x c e sd) {K : Nat} (fq : Fb K q) (hK : K ≤ 9700) (hle : wo (absP q) ≤ wo x) {way : Str}
    (o1 : overB f way 0 c e sd = false) (o2 : overB f way (sE x) c e sd = false) {w : Vl} {G : List Str} (r : RoundTo f way q 0 w G) :
    ∃ s c2 e2, w = .num s c2 e2 ∧ NumOk f s c2 e2 ∧ wo (absP (subP (wv f.b s c2 e2) q)) ≤ wo (dueP f way e) := by
  have bp0 := bp_pos hf.b2 e
  have due0 : 0 ≤ wo (dueP f way e) := by
    unfold dueP
    split
    · have := wo_half (powP_can hf.b2 e)
      have q : wo (powP f.b e) = bp f.b e := rfl
      rw [q] at this
      grind
    · exact Rat.le_of_lt bp0
  obtain ⟨c', e', sd', hp', _⟩ := part_exists hf fq.absP hK (by show (0 : Int) ≤ (q.1.natAbs : Int); omega)
  have rf := round_fin hf hq hp' way 0
  obtain ⟨ew, eG⟩ := round_uniq hf r rf
  have hee := part_le_e hf hp hp' hle
  have bm := bp_mono hf.b2 hee
  by_cases z : q.1 = 0
  · rw [if_pos z] at ew
    rcases r with ⟨_, rfl, _⟩ | ⟨y, _⟩
    · refine ⟨0, 0, f.lo, rfl, zeroOk hf, ?_⟩
      have s0 : sgF q = 0 := if_neg (by omega)
      have := wo_disF hf.b2 hq 0 f.lo
      rw [s0] at this
      rw [this]
      have w0 : wo (absP q) = 0 := by
        unfold wo absP
        rw [z]
        show ((0 : Int) : Rat) / _ = 0
        rw [Rat.div_def]
        simp
      have ez : ((0 : Int) : Rat) * bp f.b f.lo = 0 := by simp
      rw [w0, ez, Rat.sub_self]
      exact due0
    · exact absurd z y
  · rw [if_neg z] at ew
    have hov : overB f way (sgF q) c' e' sd' = false := by
      cases hv : overB f way (sgF q) c' e' sd' with
      | false => rfl
      | true =>
        have big := over_mono hf hp hp' hle hv
        by_cases y : q.1 < 0
        · have s1 : sgF q = 1 := if_pos y
          have sx : sE x = 1 := by
            refine if_neg fun x0 => ?_
            have w0 : wo x = 0 := by
              unfold wo
              rw [x0]
              rw [Rat.div_def]
              simp
            have hd : (0 : Rat) < (q.2 : Rat) := by exact_mod_cast hq.pos
            rw [w0] at hle
            have : ¬ (0 : Rat) < wo (absP q) := Rat.not_lt.mpr hle
            refine this ?_
            show (0 : Rat) < (((q.1.natAbs : Int)) : Rat) / (q.2 : Rat)
            rw [Rat.lt_div_iff hd, Rat.zero_mul]
            have : (0 : Int) < (q.1.natAbs : Int) := by omega
            exact_mod_cast this
          rw [s1, ← sx, o2] at big
          cases big
        · have s1 : sgF q = 0 := if_neg y
          rw [s1, o1] at big
          cases big
    have hov : ¬ f.hi < (upC f way (sgF q) c' e' sd').2 := of_decide_eq_false hov
    have nok := upC_ok hf hp' (way := way) (s := sgF q) (by omega)
    have ev : finV f way (sgF q) c' e' sd' = .num (sgF q) (upC f way (sgF q) c' e' sd').1 (upC f way (sgF q) c' e' sd').2 := if_neg hov
    refine ⟨_, _, _, ew.trans ev, nok.sign (sgF01 q), ?_⟩
    rw [wo_disF hf.b2 hq, upC_wo hf]
    obtain ⟨a1, a2⟩ := err_le hf hp' (way := way) (s := sgF q)
    unfold dueP
    by_cases hn : isNear way = true
    · rw [if_pos hn]
      have a2 := a2 hn
      have hh := wo_half (powP_can hf.b2 e)
      have qq : wo (powP f.b e) = bp f.b e := rfl
      rw [qq] at hh
      generalize ab _ = A at a2 ⊢
      grind
    · rw [if_neg hn]
      exact Rat.le_trans a1 bm
end VI

/-! PL21: a half-way point. -/
namespace VI
open PySem
theorem can_abs {p : P2} (h : Can p) : Can (absP p) := ⟨h.pos, by show Nat.gcd (p.1.natAbs : Int).natAbs p.2.natAbs = 1; rw [Int.natAbs_natCast]; exact h.cop⟩
def midH (f : Fm) : P2 := addP (wv f.b 0 f.F f.hi) (halfP (powP f.b f.hi))
theorem half_can {p : P2} (hp : Can p) : Can (halfP p) := can_mul hp ⟨by decide, by decide⟩
theorem wo_midH {f : Fm} (hf : FmOk f) : 2 * wo (midH f) = ((2 * f.F + 1 : Int) : Rat) * bp f.b f.hi := by
  unfold midH
  rw [wo_add (wv_can hf.b2 _ _ _) (half_can (powP_can hf.b2 _)), wo_sg0 hf.b2]
  have h := wo_half (powP_can hf.b2 f.hi)
  have q : wo (powP f.b f.hi) = bp f.b f.hi := rfl
  rw [q] at h
  push_cast
  grind
theorem mid_part {f : Fm} (hf : FmOk f) : PartAt f (midH f) f.F f.hi (some 0) := by
  have TF := hf.TF
  have F2 := hf.F2
  have F0 := hf.F_pos
  have W0 := hf.W_pos
  have hh := hf.h
  have w := wo_midH hf
  have bp0 := bp_pos hf.b2 f.hi
  have two : ((2 * f.F + 1 : Int) : Rat) * bp f.b f.hi = 2 * ((f.F : Rat) * bp f.b f.hi) + bp f.b f.hi := by
    push_cast
    grind
  have c1 : ((f.F + 1 : Int) : Rat) * bp f.b f.hi = (f.F : Rat) * bp f.b f.hi + bp f.b f.hi := by
    push_cast
    grind
  refine ⟨hf.lh, by omega, by omega, by omega, .inr (Int.le_refl _), by grind, by rw [c1]; grind, by grind, .inr (.inl ⟨rfl, w.symm⟩)⟩
theorem mid_dist {f : Fm} (hf : FmOk f) (h0 : 0 ≤ (midH f).1) {way : Str} {w : Vl} {G : List Str} (r : RoundTo f way (midH f) 0 w G) :
    ∃ c2, w = .num 0 c2 f.hi ∧ NumOk f 0 c2 f.hi ∧ absP (subP (wv f.b 0 c2 f.hi) (midH f)) = halfP (powP f.b f.hi) := by
  have TF := hf.TF
  have F2 := hf.F2
  have F0 := hf.F_pos
  have hc : Can (midH f) := can_add (wv_can hf.b2 _ _ _) (half_can (powP_can hf.b2 _))
  have hp := mid_part hf
  obtain ⟨ew, _⟩ := round_pos hf hc h0 hp r
  have WF : f.F + 1 < f.T := by
    have hb := hf.b2
    have := hf.T_eq
    have := Int.mul_le_mul_of_nonneg_right hb (show (0 : Int) ≤ f.F by omega)
    omega
  have eu : upC f way 0 f.F f.hi (some 0) = (if upB way 0 f.F (some 0) = true then f.F + 1 else f.F, f.hi) := by
    unfold upC uN
    split
    · rw [if_neg (by omega)]
    · rfl
  have ev : finV f way 0 f.F f.hi (some 0) = .num 0 (if upB way 0 f.F (some 0) = true then f.F + 1 else f.F) f.hi := by
    unfold finV
    rw [eu, if_neg (by show ¬ f.hi < f.hi; omega)]
  refine ⟨_, ew.trans ev, ⟨.inl rfl, hf.lh, Int.le_refl _, by split <;> omega, by show _ < f.T; split <;> omega, .inr (by show f.F ≤ _; split <;> omega)⟩, ?_⟩
  have hcan2 : Can (subP (wv f.b 0 (if upB way 0 f.F (some 0) = true then f.F + 1 else f.F) f.hi) (midH f)) := can_sub (wv_can hf.b2 _ _ _) hc
  refine wo_eq (can_abs hcan2) (half_can (powP_can hf.b2 _)) ?_
  rw [wo_absP hcan2, wo_sub (wv_can hf.b2 _ _ _) hc, wo_sg0 hf.b2]
  have wm := wo_midH hf
  have h := wo_half (powP_can hf.b2 f.hi)
  have q : wo (powP f.b f.hi) = bp f.b f.hi := rfl
  rw [q] at h
  have bp0 := bp_pos hf.b2 f.hi
  have two : ((2 * f.F + 1 : Int) : Rat) * bp f.b f.hi = 2 * ((f.F : Rat) * bp f.b f.hi) + bp f.b f.hi := by
    push_cast
    grind
  have c1 : ((f.F + 1 : Int) : Rat) * bp f.b f.hi = (f.F : Rat) * bp f.b f.hi + bp f.b f.hi := by
    push_cast
    grind
  split
  · rw [c1]
    unfold ab
    split <;> grind
  · unfold ab
    split <;> grind
end VI

/-! PL22: rests (k27). -/
namespace VI
open PySem
/-- the integer to which a fraction is rounded -/
def nq (way : Str) (q : P2) : Int := near way q.1 q.2 (q.1.fdiv q.2) (q.1 - q.1.fdiv q.2 * q.2)
theorem nq_zero {q : P2} (h : 0 < q.2) : ∃ r, q.1 - nq "zero" q * q.2 = r ∧ r.natAbs < q.2.natAbs ∧ r.natAbs ≤ q.1.natAbs ∧ (0 ≤ q.1 → 0 ≤ r) ∧ (q.1 ≤ 0 → r ≤ 0) := by
  obtain ⟨n, d⟩ := q
  obtain ⟨fl, r, hq, hn, h0, h1⟩ := fdiv_parts (n := n) h
  have h : 0 < d := h
  have h1 : r < d := h1
  have hq : n.fdiv d = fl := hq
  have hn : n = fl * d + r := hn
  have hr : n - fl * d = r := by omega
  unfold nq
  show ∃ r', n - near "zero" n d (n.fdiv d) (n - n.fdiv d * d) * d = r' ∧ r'.natAbs < d.natAbs ∧ r'.natAbs ≤ n.natAbs ∧ (0 ≤ n → 0 ≤ r') ∧ (n ≤ 0 → r' ≤ 0)
  rw [hq, hr]
  have x1 : ¬ ("zero" : Str) = "down" := by decide
  have x2 : ¬ ("zero" : Str) = "up" := by decide
  have e1 : (fl + 1) * d = fl * d + d := by grind
  obtain ⟨s0, s1⟩ := sign_parts h hn h0 h1
  have e2 : 0 ≤ fl ∨ fl * d ≤ -d := by
    by_cases z : 0 ≤ fl
    · exact .inl z
    · refine .inr ?_
      have : fl * d ≤ -1 * d := Int.mul_le_mul_of_nonneg_right (by omega) (by omega)
      omega
  have e3 : 0 ≤ fl → 0 ≤ fl * d := fun z => Int.mul_nonneg z (by omega)
  unfold near
  rw [if_neg x1, if_neg x2, if_pos rfl]
  by_cases z : r = 0
  · rw [if_pos z]
    exact ⟨_, hr, by omega, by omega, by omega, by omega⟩
  · rw [if_neg z]
    by_cases z2 : n > 0
    · rw [if_pos z2]
      exact ⟨_, hr, by omega, by omega, by omega, by omega⟩
    · rw [if_neg z2, e1]
      refine ⟨_, rfl, ?_, ?_, ?_, ?_⟩ <;> omega
theorem nq_even {q : P2} (h : 0 < q.2) : ∃ r, q.1 - nq "even" q * q.2 = r ∧ 2 * r.natAbs ≤ q.2.natAbs ∧ r.natAbs ≤ q.1.natAbs := by
  obtain ⟨n, d⟩ := q
  obtain ⟨fl, r, hq, hn, h0, h1⟩ := fdiv_parts (n := n) h
  have h : 0 < d := h
  have h1 : r < d := h1
  have hq : n.fdiv d = fl := hq
  have hn : n = fl * d + r := hn
  have hr : n - fl * d = r := by omega
  unfold nq
  show ∃ r', n - near "even" n d (n.fdiv d) (n - n.fdiv d * d) * d = r' ∧ 2 * r'.natAbs ≤ d.natAbs ∧ r'.natAbs ≤ n.natAbs
  rw [hq, hr]
  have x1 : ¬ ("even" : Str) = "down" := by decide
  have x2 : ¬ ("even" : Str) = "up" := by decide
  have x3 : ¬ ("even" : Str) = "zero" := by decide
  have e1 : (fl + 1) * d = fl * d + d := by grind
  have e2 : (0 ≤ fl ∧ 0 ≤ fl * d) ∨ fl * d ≤ -d := by
    by_cases z : 0 ≤ fl
    · exact .inl ⟨z, Int.mul_nonneg z (by omega)⟩
    · refine .inr ?_
      have : fl * d ≤ -1 * d := Int.mul_le_mul_of_nonneg_right (by omega) (by omega)
      omega
  unfold near
  rw [if_neg x1, if_neg x2, if_neg x3, if_pos rfl]
  split
  · exact ⟨_, hr, by omega, by omega⟩
  · split
    · exact ⟨_, hr, by omega, by omega⟩
    · split
      · rw [e1]
        exact ⟨_, rfl, by omega, by omega⟩
      · by_cases z : fl % 2 = 0
        · rw [show fl + fl % 2 = fl by omega]
          exact ⟨_, hr, by omega, by omega⟩
        · rw [show fl + fl % 2 = fl + 1 by omega, e1]
          exact ⟨_, rfl, by omega, by omega⟩
/-- any count of a unit is a NUMBER, if it is less than the bound -/
theorem size_of {f : Fm} (hf : FmOk f) : ∀ (k : Nat) {m e : Int}, 0 ≤ m → m < f.T → f.lo ≤ e → e ≤ f.hi → (e - f.lo).toNat = k → ∃ c' e', NumOk f 0 c' e' ∧ (c' : Rat) * bp f.b e' = (m : Rat) * bp f.b e ∧ e' ≤ e
  | 0, m, e, h0, h1, h2, h3, hk => ⟨m, e, ⟨.inl rfl, h2, h3, h0, h1, .inl (by omega)⟩, rfl, Int.le_refl _⟩
  | k + 1, m, e, h0, h1, h2, h3, hk => by
    by_cases z : f.F ≤ m
    · exact ⟨m, e, ⟨.inl rfl, h2, h3, h0, h1, .inr z⟩, rfl, Int.le_refl _⟩
    · have hb := hf.b2
      have hT := hf.T_eq
      have lt : m * f.b < f.T := by
        rw [hT, Int.mul_comm]
        exact Int.mul_lt_mul_of_pos_left (by omega) (by omega)
      obtain ⟨c', e', n, q, l⟩ := size_of hf k (m := m * f.b) (e := e - 1) (Int.mul_nonneg h0 (by omega)) lt (by omega) (by omega) (by omega)
      refine ⟨c', e', n, ?_, by omega⟩
      rw [q, show bp f.b e = bp f.b (e - 1 + 1) by rw [Int.sub_add_cancel], bp_one hb]
      push_cast
      grind
theorem ab_int {b : Int} (hb : 2 ≤ b) (z e : Int) : ab ((z : Rat) * bp b e) = ((z.natAbs : Int) : Rat) * bp b e := by
  have p := bp_pos hb e
  unfold ab
  by_cases h : 0 ≤ z
  · have := mul_le_bp hb h e
    have e0 : ((0 : Int) : Rat) * bp b e = 0 := by simp
    rw [e0] at this
    rw [if_pos this, show (z.natAbs : Int) = z by omega]
  · have := mul_lt_bp hb (show z < 0 by omega) e
    have e0 : ((0 : Int) : Rat) * bp b e = 0 := by simp
    rw [e0] at this
    rw [if_neg (by grind), show (z.natAbs : Int) = -z by omega]
    push_cast
    grind
/-- the rest of one fraction by another one -/
def restP (way : Str) (x y : P2) : P2 := subP x (mulP (nq way (divP x y), 1) y)
/-- both as counts of one unit -/
theorem rest_cnt {f : Fm} (hf : FmOk f) {s c e t c' e' : Int} (h : NumOk f s c e) (h' : NumOk f t c' e') (hc : c' ≠ 0) (way : Str) :
    ∃ m X Y : Int, f.lo ≤ m ∧ m ≤ f.hi ∧ wo (wv f.b s c e) = (X : Rat) * bp f.b m ∧ wo (wv f.b t c' e') = (Y : Rat) * bp f.b m ∧ Y ≠ 0 ∧ (X.natAbs < f.T ∨ Y.natAbs < f.T) ∧
      (divP (wv f.b s c e) (wv f.b t c' e')).1 * Y = X * (divP (wv f.b s c e) (wv f.b t c' e')).2 ∧
      wo (restP way (wv f.b s c e) (wv f.b t c' e')) = ((X - nq way (divP (wv f.b s c e) (wv f.b t c' e')) * Y : Int) : Rat) * bp f.b m := by
  have hb := hf.b2
  have a1 := wv_can hb s c e
  have a2 := wv_can hb t c' e'
  have nz : (wv f.b t c' e').1 ≠ 0 := (wv_sign hf h').1.mpr hc
  have key : ∀ m X Y : Int, f.lo ≤ m → m ≤ f.hi → wo (wv f.b s c e) = (X : Rat) * bp f.b m → wo (wv f.b t c' e') = (Y : Rat) * bp f.b m → (X.natAbs < f.T ∨ Y.natAbs < f.T) → _ := fun m X Y m0 m1 w1 w2 hT => (show ∃ m X Y : Int, f.lo ≤ m ∧ m ≤ f.hi ∧ wo (wv f.b s c e) = (X : Rat) * bp f.b m ∧ wo (wv f.b t c' e') = (Y : Rat) * bp f.b m ∧ Y ≠ 0 ∧ (X.natAbs < f.T ∨ Y.natAbs < f.T) ∧
      (divP (wv f.b s c e) (wv f.b t c' e')).1 * Y = X * (divP (wv f.b s c e) (wv f.b t c' e')).2 ∧
      wo (restP way (wv f.b s c e) (wv f.b t c' e')) = ((X - nq way (divP (wv f.b s c e) (wv f.b t c' e')) * Y : Int) : Rat) * bp f.b m from by
    have p := bp_pos hb m
    have pn : bp f.b m ≠ 0 := by grind
    have Y0 : Y ≠ 0 := fun z => by
      rw [z] at w2
      have := wo_ne a2 nz
      apply this
      rw [w2]
      simp
    refine ⟨m, X, Y, m0, m1, w1, w2, Y0, hT, ?_, ?_⟩
    · have cd : Can (divP (wv f.b s c e) (wv f.b t c' e')) := can_div a1 nz
      have wd := wo_div a1 a2 nz
      generalize divP (wv f.b s c e) (wv f.b t c' e') = q at cd wd
      rw [w1, w2] at wd
      unfold wo at wd
      have d0 : (q.2 : Rat) ≠ 0 := rat_ne (by have := cd.pos; omega)
      have y0 : (Y : Rat) ≠ 0 := rat_ne Y0
      have : (q.1 : Rat) * (Y : Rat) = (X : Rat) * (q.2 : Rat) := by grind
      exact_mod_cast this
    · unfold restP
      rw [wo_sub a1 (can_mul (can_int _) a2), wo_mul (can_int _) a2, wo_int, w1, w2]
      push_cast
      grind)
  by_cases z : e ≤ e'
  · refine key e (sg s * c) (sg t * c' * f.b ^ (e' - e).toNat) h.e1 h.e2 (wo_wv hb ..) ?_ (.inl ?_)
    · rw [wo_wv hb, bp_split hb z]
      push_cast
      grind
    · have := h.c0
      have := h.c1
      show ((sg s * c).natAbs : Int) < f.b ^ f.p.toNat
      unfold sg
      split <;> omega
  · refine key e' (sg s * c * f.b ^ (e - e').toNat) (sg t * c') h'.e1 h'.e2 ?_ (wo_wv hb ..) (.inr ?_)
    · rw [wo_wv hb, bp_split hb (show e' ≤ e by omega)]
      push_cast
      grind
    · have := h'.c0
      have := h'.c1
      show ((sg t * c').natAbs : Int) < f.b ^ f.p.toNat
      unfold sg
      split <;> omega
theorem abs_mul {a b c d : Int} (h : a * b = c * d) : a.natAbs * b.natAbs = c.natAbs * d.natAbs := by
  rw [← Int.natAbs_mul, ← Int.natAbs_mul, h]
theorem rest_eq {X Y n q1 q2 : Int} (e : q1 * Y = X * q2) : (X - n * Y) * q2 = (q1 - n * q2) * Y := by grind
theorem rest_num {f : Fm} (hf : FmOk f) {s c e t c' e' : Int} (h : NumOk f s c e) (h' : NumOk f t c' e') (hc : c' ≠ 0) {way : Str} (hw : way = "even" ∨ way = "zero") :
    ∃ k j, SizeAt f (restP way (wv f.b s c e) (wv f.b t c' e')) k j ∧
      (way = "even" → 2 * wo (absP (restP way (wv f.b s c e) (wv f.b t c' e'))) ≤ wo (absP (wv f.b t c' e'))) ∧
      (way = "zero" → wo (absP (restP way (wv f.b s c e) (wv f.b t c' e'))) < wo (absP (wv f.b t c' e')) ∧ ((restP way (wv f.b s c e) (wv f.b t c' e')).1 ≠ 0 → sgF (restP way (wv f.b s c e) (wv f.b t c' e')) = s)) := by
  have hb := hf.b2
  have a1 := wv_can hb s c e
  have a2 := wv_can hb t c' e'
  have nz : (wv f.b t c' e').1 ≠ 0 := (wv_sign hf h').1.mpr hc
  have cr : Can (restP way (wv f.b s c e) (wv f.b t c' e')) := can_sub a1 (can_mul (can_int _) a2)
  have cd : Can (divP (wv f.b s c e) (wv f.b t c' e')) := can_div a1 nz
  obtain ⟨m, X, Y, m0, m1, w1, w2, Y0, hT, qe, wr⟩ := rest_cnt hf h h' hc way
  have sgn := (wv_sign hf h).2
  have wx1 : wo (wv f.b s c e) < 0 ↔ (wv f.b s c e).1 < 0 := by
    have := below_iff a1 can01
    rw [wo01] at this
    rw [← this]
    show _ * 1 < 0 * _ ↔ _
    omega
  have wr1 : wo (restP way (wv f.b s c e) (wv f.b t c' e')) < 0 ↔ (restP way (wv f.b s c e) (wv f.b t c' e')).1 < 0 := by
    have := below_iff cr can01
    rw [wo01] at this
    rw [← this]
    show _ * 1 < 0 * _ ↔ _
    omega
  have wr2 : (0 : Rat) < wo (restP way (wv f.b s c e) (wv f.b t c' e')) ↔ 0 < (restP way (wv f.b s c e) (wv f.b t c' e')).1 := by
    have := below_iff can01 cr
    rw [wo01] at this
    rw [← this]
    show 0 * _ < _ * 1 ↔ _
    omega
  have ar := wo_absP cr
  have ay := wo_absP a2
  rw [wr, ab_int hb] at ar
  rw [w2, ab_int hb] at ay
  generalize divP (wv f.b s c e) (wv f.b t c' e') = q at qe wr ar cd
  have p := bp_pos hb m
  have m1' := abs_mul qe
  have m2' := abs_mul (rest_eq (n := nq way q) qe)
  have d0 : 0 < q.2.natAbs := by have := cd.pos; omega
  have y0 : 0 < Y.natAbs := by omega
  have hX : ∀ r : Int, q.1 - nq way q * q.2 = r → r.natAbs ≤ q.1.natAbs → (X - nq way q * Y).natAbs ≤ X.natAbs := fun r er hr => by
    rw [er] at m2'
    refine Nat.le_of_mul_le_mul_right ?_ d0
    rw [m2', ← m1']
    exact Nat.mul_le_mul_right _ hr
  have fin : (X - nq way q * Y).natAbs ≤ X.natAbs → (X - nq way q * Y).natAbs ≤ Y.natAbs → ∃ k j, SizeAt f (restP way (wv f.b s c e) (wv f.b t c' e')) k j := fun l1 l2 => by
    obtain ⟨k, j, n, q', _⟩ := size_of hf _ (m := ((X - nq way q * Y).natAbs : Int)) (e := m) (by omega) (by omega) m0 m1 rfl
    exact ⟨k, j, n, by rw [q', ar]⟩
  rcases hw with rfl | rfl
  · obtain ⟨r, er, b1, b2⟩ := nq_even cd.pos
    have l1 := hX r er b2
    have l2 : 2 * (X - nq "even" q * Y).natAbs ≤ Y.natAbs := by
      rw [er] at m2'
      refine Nat.le_of_mul_le_mul_right ?_ d0
      rw [Nat.mul_assoc, m2', ← Nat.mul_assoc, Nat.mul_comm Y.natAbs]
      exact Nat.mul_le_mul_right _ b1
    obtain ⟨k, j, sz⟩ := fin l1 (by omega)
    refine ⟨k, j, sz, fun _ => ?_, fun z => absurd z (by decide)⟩
    rw [ar, ay]
    have := mul_le_bp hb (show 2 * ((X - nq "even" q * Y).natAbs : Int) ≤ Y.natAbs by omega) m
    push_cast at this ⊢
    grind
  · obtain ⟨r, er, b1, b2, b3, b4⟩ := nq_zero cd.pos
    have l1 := hX r er b2
    have l2 : (X - nq "zero" q * Y).natAbs < Y.natAbs := by
      rw [er] at m2'
      refine Nat.lt_of_mul_lt_mul_right (a := q.2.natAbs) ?_
      rw [m2', Nat.mul_comm Y.natAbs]
      exact Nat.mul_lt_mul_of_pos_right b1 y0
    obtain ⟨k, j, sz⟩ := fin l1 (by omega)
    refine ⟨k, j, sz, fun z => absurd z (by decide), fun _ => ⟨?_, fun nz' => ?_⟩⟩
    · rw [ar, ay]
      exact mul_lt_bp hb (show ((X - nq "zero" q * Y).natAbs : Int) < Y.natAbs by omega) m
    · have e3 := rest_eq (n := nq "zero" q) qe
      rw [er] at e3
      have d1 := cd.pos
      have neg_iff : ∀ z : Int, (z : Rat) * bp f.b m < 0 ↔ z < 0 := fun z => by
        refine ⟨fun l => ?_, fun l => ?_⟩
        · refine Int.not_le.mp fun l' => ?_
          have := mul_le_bp hb l' m
          have e0 : ((0 : Int) : Rat) * bp f.b m = 0 := by simp
          rw [e0] at this
          grind
        · have := mul_lt_bp hb l m
          have e0 : ((0 : Int) : Rat) * bp f.b m = 0 := by simp
          rw [e0] at this
          exact this
      rw [w1, neg_iff] at wx1
      rw [wr, neg_iff] at wr1
      have R0 : X - nq "zero" q * Y ≠ 0 := fun z => by
        rw [z] at wr
        have := wo_ne cr nz'
        apply this
        rw [wr]
        simp
      -- the signs
      have same : X - nq "zero" q * Y < 0 ↔ X < 0 := by
        generalize X - nq "zero" q * Y = R at *
        have q0 : q.1 ≠ 0 := fun z => by
          have : r = 0 := by have := b3 (by omega); have := b4 (by omega); omega
          rw [this] at e3
          have : R * q.2 = 0 := by omega
          rcases Int.mul_eq_zero.mp this with w | w
          · exact R0 w
          · omega
        have r0 : r ≠ 0 := fun z => by
          rw [z] at e3
          have : R * q.2 = 0 := by omega
          rcases Int.mul_eq_zero.mp this with w | w
          · exact R0 w
          · omega
        have sgm : ∀ a : Int, (a * q.2 < 0 ↔ a < 0) := fun a => by
          refine ⟨fun l => ?_, fun l => ?_⟩
          · refine Int.not_le.mp fun l' => ?_
            have := Int.mul_nonneg l' (show 0 ≤ q.2 by omega)
            omega
          · exact Int.mul_neg_of_neg_of_pos l d1
        rw [← sgm R, ← sgm X, e3, ← qe]
        rcases Int.lt_or_gt_of_ne q0 with a | a
        · have : r < 0 := by have := b4 (by omega); omega
          rcases Int.lt_or_gt_of_ne Y0 with y | y
          · have := Int.mul_pos_of_neg_of_neg a y
            have := Int.mul_pos_of_neg_of_neg ‹r < 0› y
            omega
          · have := Int.mul_neg_of_neg_of_pos a y
            have := Int.mul_neg_of_neg_of_pos ‹r < 0› y
            omega
        · have : 0 < r := by have := b3 (by omega); omega
          rcases Int.lt_or_gt_of_ne Y0 with y | y
          · have := Int.mul_neg_of_pos_of_neg a y
            have := Int.mul_neg_of_pos_of_neg ‹0 < r› y
            omega
          · have := Int.mul_pos a y
            have := Int.mul_pos ‹0 < r› y
            omega
      have hs := h.s
      unfold sgF
      by_cases z : X < 0
      · have := sgn.mp (wx1.mp z)
        rw [if_pos (wr1.mp (same.mpr z))]
        exact this.1.symm
      · have nl : ¬ (restP "zero" (wv f.b s c e) (wv f.b t c' e')).1 < 0 := fun l => z (same.mp (wr1.mpr l))
        rw [if_neg nl]
        by_cases cz : c = 0
        · exfalso
          have X0 : X = 0 := by
            have w0 : wo (wv f.b s c e) = 0 := by
              rw [wo_wv hb, cz]
              simp
            rw [w1] at w0
            have pn : bp f.b m ≠ 0 := by grind
            have : (X : Rat) = 0 := by grind
            exact_mod_cast this
          rw [X0] at l1
          omega
        · have : ¬ s = 1 := fun e1 => z (wx1.mpr (sgn.mpr ⟨e1, cz⟩))
          omega
def RestTo (f : Fm) (way : Str) : Vl → Vl → Vl → List Str → Prop
  | .nan, _ => Out0 .nan []
  | _, .nan => Out0 .nan []
  | .inf _, _ => Out0 .nan ["invalid"]
  | .num s c e, .inf _ => Out0 (.num s c e) []
  | .num s c e, .num t c' e' => if c' = 0 then Out0 .nan ["invalid"] else fun w G => G = [] ∧ (((restP way (wv f.b s c e) (wv f.b t c' e')).1 = 0 ∧ w = .num s 0 f.lo) ∨ ((restP way (wv f.b s c e) (wv f.b t c' e')).1 ≠ 0 ∧ ∃ k j, w = .num (sgF (restP way (wv f.b s c e) (wv f.b t c' e'))) k j ∧ SizeAt f (restP way (wv f.b s c e) (wv f.b t c' e')) k j))
theorem one_rest {f : Fm} (hf : FmOk f) {way : Str} {x y : Vl} (hx : VlOk f x) (hy : VlOk f y) : OneOut f (RestTo f way x y) := by
  have n0 : OneOut f (Out0 .nan []) := one_out0 (show VlOk f .nan from trivial) (by simp [flags6, flags4])
  have n1 : OneOut f (Out0 .nan ["invalid"]) := one_out0 (show VlOk f .nan from trivial) (by simp [flags6, flags4])
  cases x <;> cases y <;> try first | exact n0 | exact n1 | exact one_out0 hx (by simp [flags6, flags4])
  rename_i s c e t c' e'
  show OneOut f (if c' = 0 then Out0 .nan ["invalid"] else _)
  split
  · exact n1
  · have hs := hx.s
    refine ⟨?_, ?_, ?_⟩
    · rintro w G w' G' ⟨rfl, h⟩ ⟨rfl, h'⟩
      refine ⟨?_, rfl⟩
      rcases h with ⟨z, rfl⟩ | ⟨z, k, j, rfl, q⟩
      · rcases h' with ⟨z', rfl⟩ | ⟨z', k', j', rfl, q'⟩
        · rfl
        · exact absurd z z'
      · rcases h' with ⟨z', rfl⟩ | ⟨z', k', j', rfl, q'⟩
        · exact absurd z' z
        · obtain ⟨rfl, rfl⟩ := num_uniq hf q.1 q'.1 (q.2.trans q'.2.symm)
          rfl
    · rintro w G ⟨rfl, ⟨z, rfl⟩ | ⟨z, k, j, rfl, q⟩⟩
      · exact (zeroOk hf).sign hs
      · exact q.1.sign (sgF01 _)
    · rintro w G ⟨rfl, _⟩
      simp [flags6, flags4]
/-- the bits of a rest -/
theorem rest_fra {f : Fm} (hf : FmOk f) {x : P2} (hx : Can x) {k j : Int} (h : SizeAt f x k j) : Fra 3200 x := by
  have e : absP x = wv f.b 0 k j := wo_eq (can_abs hx) (wv_can hf.b2 ..) (by rw [wo_sg0 hf.b2]; exact h.2.symm)
  have w := wv_fra hf h.1
  have e1 : (absP x).1 = (wv f.b 0 k j).1 := congrArg Prod.fst e
  have e1 : (x.1.natAbs : Int) = (wv f.b 0 k j).1 := e1
  have e2 : (absP x).2 = (wv f.b 0 k j).2 := congrArg Prod.snd e
  have e2 : x.2 = (wv f.b 0 k j).2 := e2
  refine ⟨hx, ?_, ?_⟩
  · have b := w.b1
    rw [← e1] at b
    exact Bd.of_natAbs b (by omega)
  · rw [e2]
    exact w.b2
theorem size_part {f : Fm} (hf : FmOk f) {x : P2} (hx : Can x) {k j : Int} (h : SizeAt f x k j) : PartAt f (absP x) k j none := by
  have e : absP x = wv f.b 0 k j := wo_eq (can_abs hx) (wv_can hf.b2 ..) (by rw [wo_sg0 hf.b2]; exact h.2.symm)
  rw [e]
  exact num_part hf h.1
theorem zero_size {f : Fm} (hf : FmOk f) {x : P2} (hx : Can x) (z : x.1 = 0) : SizeAt f x 0 f.lo := by
  refine ⟨zeroOk hf, ?_⟩
  have e : wo (absP x) = 0 := by
    unfold wo absP
    rw [z]
    show ((0 : Int) : Rat) / _ = 0
    rw [Rat.div_def]
    simp
  rw [e]
  simp
theorem size_abs {f : Fm} (hf : FmOk f) {x : P2} (hx : Can x) {k j : Int} (h : SizeAt f x k j) : wv f.b 0 k j = absP x :=
  (wo_eq (can_abs hx) (wv_can hf.b2 ..) (by rw [wo_sg0 hf.b2]; exact h.2.symm)).symm
theorem rest_is {f : Fm} (hf : FmOk f) {s c e t c' e' : Int} (h : NumOk f s c e) (h' : NumOk f t c' e') (hc : c' ≠ 0) {way : Str} (hw : way = "even" ∨ way = "zero") {w : Vl} {G : List Str} (q : RestTo f way (.num s c e) (.num t c' e') w G) :
    G = [] ∧ ∃ s1 k j, w = .num s1 k j ∧ NumOk f s1 k j ∧ absP (wv f.b s1 k j) = absP (restP way (wv f.b s c e) (wv f.b t c' e')) ∧ (way = "zero" → s1 = s) := by
  have nz : (wv f.b t c' e').1 ≠ 0 := (wv_sign hf h').1.mpr hc
  have cr : Can (restP way (wv f.b s c e) (wv f.b t c' e')) := can_sub (wv_can hf.b2 ..) (can_mul (can_int _) (wv_can hf.b2 ..))
  have q : (if c' = 0 then Out0 .nan ["invalid"] else fun w G => G = [] ∧ (((restP way (wv f.b s c e) (wv f.b t c' e')).1 = 0 ∧ w = .num s 0 f.lo) ∨ ((restP way (wv f.b s c e) (wv f.b t c' e')).1 ≠ 0 ∧ ∃ k j, w = .num (sgF (restP way (wv f.b s c e) (wv f.b t c' e'))) k j ∧ SizeAt f (restP way (wv f.b s c e) (wv f.b t c' e')) k j))) w G := q
  rw [if_neg hc] at q
  obtain ⟨k0, j0, sz, _, r2⟩ := rest_num hf h h' hc hw
  obtain ⟨rfl, ⟨z, rfl⟩ | ⟨z, k, j, rfl, sz'⟩⟩ := q
  · have sz' := zero_size hf cr z
    refine ⟨rfl, s, 0, f.lo, rfl, (zeroOk hf).sign h.s, ?_, fun _ => rfl⟩
    rw [absP_wv hf.b2 (Int.le_refl _)]
    exact size_abs hf cr sz'
  · refine ⟨rfl, _, k, j, rfl, sz'.1.sign (sgF01 _), ?_, fun ez => (r2 ez).2 z⟩
    rw [absP_wv hf.b2 sz'.1.c0]
    exact size_abs hf cr sz'
end VI

/-! PL23: what a rounded sum or product lacks (k50). -/
namespace VI
open PySem
theorem bp_add {b : Int} (hb : 2 ≤ b) (e e' : Int) : bp b (e + e') = bp b e * bp b e' := by
  have z0 : bp b 0 = 1 := by
    unfold bp powP
    rw [if_pos (Int.le_refl 0)]
    show wo (b ^ 0, 1) = 1
    rw [Int.pow_zero, wo_int]
    rfl
  by_cases h : 0 ≤ e'
  · have h1 := bp_up hb e e'.toNat
    have h2 := bp_up hb 0 e'.toNat
    rw [show e + (e'.toNat : Int) = e + e' by omega] at h1
    rw [show 0 + (e'.toNat : Int) = e' by omega, z0] at h2
    rw [h1, h2]
    grind
  · have h1 := bp_up hb (e + e') (-e').toNat
    have h2 := bp_up hb e' (-e').toNat
    rw [show e + e' + ((-e').toNat : Int) = e by omega] at h1
    rw [show e' + ((-e').toNat : Int) = 0 by omega, z0] at h2
    rw [h1]
    grind
theorem Fb.sub {k l : Nat} {p q : P2} (h : Fb k p) (h' : Fb l q) : Fra (k + l + 1) (subP p q) :=
  Fra.nrm (mul_ne h.ne h'.ne) (((h.b1.mul h'.b2).sub (h'.b1.mul h.b2)).up (by omega)) ((h.b2.mul h'.b2).up (by omega))
theorem absP_sub_comm {p q : P2} (hp : Can p) (hq : Can q) : wo (absP (subP p q)) = wo (absP (subP q p)) := by
  rw [wo_absP (can_sub hp hq), wo_absP (can_sub hq hp), wo_sub hp hq, wo_sub hq hp, ← ab_neg]
  congr 1
  grind
theorem ab_nn (q : Rat) : 0 ≤ ab q := by
  unfold ab
  split <;> grind
theorem even_min {f : Fm} (hf : FmOk f) {x : P2} {c e : Int} {sd : Option Int} (hp : PartAt f x c e sd) {s : Int} :
    ab (((if upB "even" s c sd = true then c + 1 else c : Int) : Rat) * bp f.b e - wo x) ≤ wo x - (c : Rat) * bp f.b e ∧
    ab (((if upB "even" s c sd = true then c + 1 else c : Int) : Rat) * bp f.b e - wo x) ≤ ((c + 1 : Int) : Rat) * bp f.b e - wo x := by
  have bp0 := bp_pos hf.b2 e
  have c1 : ((c + 1 : Int) : Rat) * bp f.b e = (c : Rat) * bp f.b e + bp f.b e := by
    push_cast
    grind
  have two : ((2 * c + 1 : Int) : Rat) * bp f.b e = 2 * ((c : Rat) * bp f.b e) + bp f.b e := by
    push_cast
    grind
  have le := hp.le
  have lt := hp.lt
  have s1 := hp.sd
  rw [c1] at lt
  rw [c1]
  cases sd with
  | none =>
    have s1 : (c : Rat) * bp f.b e = wo x := s1
    have : upB "even" s c none = false := rfl
    rw [if_neg (by rw [this]; decide)]
    unfold ab
    split <;> constructor <;> grind
  | some z =>
    obtain ⟨s0, s1⟩ := s1
    rw [nearW.up (.inl rfl)]
    rw [two] at s1
    rcases s1 with ⟨rfl, s1⟩ | ⟨rfl, s1⟩ | ⟨rfl, s1⟩
    · rw [if_neg (show ¬ (1 : Int) = 0 by decide), if_pos (show decide ((0 : Int) < 1) = true by decide), c1]
      unfold ab
      split <;> constructor <;> grind
    · rw [if_pos rfl]
      split
      · rw [c1]
        unfold ab
        split <;> constructor <;> grind
      · unfold ab
        split <;> constructor <;> grind
    · rw [if_neg (show ¬ (-1 : Int) = 0 by decide), if_neg (show ¬ decide ((0 : Int) < -1) = true by decide)]
      unfold ab
      split <;> constructor <;> grind
structure EvenAt (f : Fm) (x : P2) (s k j c e : Int) : Prop where
  sg : s = sgF x
  num : NumOk f s k j
  hi : e ≤ f.hi
  eq : ∃ m : Int, (k : Rat) * bp f.b j = (m : Rat) * bp f.b e
  lo : wo (absP (subP x (wv f.b s k j))) ≤ wo (absP x) - (c : Rat) * bp f.b e
  up : wo (absP (subP x (wv f.b s k j))) ≤ ((c + 1 : Int) : Rat) * bp f.b e - wo (absP x)
theorem even_at {f : Fm} (hf : FmOk f) {x : P2} (hx : Can x) (hz : x.1 ≠ 0) {s0 s k j : Int} {G : List Str} (r : RoundTo f "even" x s0 (.num s k j) G) :
    ∃ c e sd, PartAt f (absP x) c e sd ∧ EvenAt f x s k j c e := by
  have hb := hf.b2
  rcases r with ⟨z, _⟩ | ⟨_, c, e, sd, hp, hw, _⟩
  · exact absurd z hz
  refine ⟨c, e, sd, hp, ?_⟩
  have m := even_min hf hp (s := sgF x)
  rw [← upC_wo hf] at m
  unfold finV at hw
  rw [nearW.inf (.inl rfl), if_pos rfl] at hw
  by_cases ov : f.hi < (upC f "even" (sgF x) c e sd).2
  · rw [if_pos ov] at hw
    cases hw
  · rw [if_neg ov] at hw
    obtain ⟨rfl, rfl, rfl⟩ := Vl.num.inj hw
    have he : e ≤ (upC f "even" (sgF x) c e sd).2 := by
      unfold upC uN
      split
      · split
        · show e ≤ e + 1
          omega
        · exact Int.le_refl _
      · exact Int.le_refl _
    have key : wo (absP (subP x (wv f.b (sgF x) (upC f "even" (sgF x) c e sd).1 (upC f "even" (sgF x) c e sd).2))) = ab (((upC f "even" (sgF x) c e sd).1 : Rat) * bp f.b (upC f "even" (sgF x) c e sd).2 - wo (absP x)) := by
      rw [absP_sub_comm hx (wv_can hb ..), wo_disF hb hx]
    refine ⟨rfl, (upC_ok hf hp (by omega)).sign (sgF01 _), by omega, ⟨_, upC_wo hf ..⟩, ?_, ?_⟩
    · rw [key]
      exact m.1
    · rw [key]
      exact m.2
/-- no NUMBER is nearer -/
theorem even_nearest {f : Fm} (hf : FmOk f) {x : P2} (hx : Can x) {s k j c e : Int} {sd : Option Int} (hp : PartAt f (absP x) c e sd) (h : EvenAt f x s k j c e) {t k' j' : Int} (hn : NumOk f t k' j') :
    wo (absP (subP x (wv f.b s k j))) ≤ wo (absP (subP x (wv f.b t k' j'))) := by
  have hb := hf.b2
  have lo := h.lo
  have up := h.up
  have p0 := bp_pos hb e
  have p1 := bp_pos hb j'
  have L0 := mul_le_bp hb hp.c0 e
  have K0 := mul_le_bp hb hn.c0 j'
  have z0 : ∀ i : Int, ((0 : Int) : Rat) * bp f.b i = 0 := fun i => by simp
  rw [z0] at L0 K0
  have le := hp.le
  have lt := hp.lt
  have sd := num_side hf hp (show NumOk f 0 k' j' from ⟨.inl rfl, hn.e1, hn.e2, hn.c0, hn.c1, hn.c2⟩)
  have ax := wo_absP hx
  rw [wo_absP (can_sub hx (wv_can hb t k' j')), wo_sub hx (wv_can hb ..), wo_wv hb]
  have es : ((sg t * k' : Int) : Rat) * bp f.b j' = (k' : Rat) * bp f.b j' ∨ ((sg t * k' : Int) : Rat) * bp f.b j' = -((k' : Rat) * bp f.b j') := by
    unfold sg
    split
    · right
      push_cast
      grind
    · left
      rw [Int.one_mul]
  generalize ((sg t * k' : Int) : Rat) * bp f.b j' = v at es
  generalize (k' : Rat) * bp f.b j' = K at *
  generalize (c : Rat) * bp f.b e = L at *
  generalize ((c + 1 : Int) : Rat) * bp f.b e = U at *
  generalize wo (absP (subP x (wv f.b s k j))) = E at *
  generalize wo (absP x) = a at *
  generalize wo x = w at *
  unfold ab at *
  clear z0
  split at ax <;> split <;> rcases es with rfl | rfl <;> rcases sd with sd | sd <;> grind
/-- what is lacking is a NUMBER -/
theorem err_size {f : Fm} (hf : FmOk f) {x : P2} (hx : Can x) {s0 s k j : Int} {G : List Str} (r : RoundTo f "even" x s0 (.num s k j) G) {X m : Int} (hm : f.lo ≤ m) (hX : wo x = (X : Rat) * bp f.b m)
    (hB : ∀ c e sd, PartAt f (absP x) c e sd → EvenAt f x s k j c e → m < e → wo (absP (subP x (wv f.b s k j))) < (f.T : Rat) * bp f.b m) : ∃ k' j', SizeAt f (subP x (wv f.b s k j)) k' j' := by
  have hb := hf.b2
  have zer : wo (absP (subP x (wv f.b s k j))) = 0 → ∃ k' j', SizeAt f (subP x (wv f.b s k j)) k' j' := fun q => by
    refine ⟨0, f.lo, zeroOk hf, ?_⟩
    rw [q]
    simp
  have cs := can_sub hx (wv_can hb s k j)
  by_cases hz : x.1 = 0
  · rcases r with ⟨_, hw, _⟩ | ⟨z, _⟩
    · obtain ⟨rfl, rfl, rfl⟩ := Vl.num.inj hw
      apply zer
      rw [wo_absP cs, wo_sub hx (wv_can hb ..), wo_wv hb]
      have w0 : wo x = 0 := by
        unfold wo
        rw [hz]
        rw [Rat.div_def]
        simp
      rw [w0]
      simp
      decide +kernel
    · exact absurd hz z
  obtain ⟨c, e, sd, hp, ev⟩ := even_at hf hx hz r
  have ax : wo (absP x) = ((X.natAbs : Int) : Rat) * bp f.b m := by rw [wo_absP hx, hX, ab_int hb]
  by_cases he : e ≤ m
  · apply zer
    have q := size_floor hf ax.symm he hp.le hp.lt
    have lo := ev.lo
    rw [q] at lo
    have := ab_nn (wo (subP x (wv f.b s k j)))
    rw [← wo_absP cs] at this
    grind
  · have he : m < e := by omega
    have hhi := ev.hi
    have lt := hB c e sd hp ev he
    obtain ⟨M, hM⟩ := ev.eq
    have e1 : wo (absP (subP x (wv f.b s k j))) = (((M * f.b ^ (e - m).toNat - (X.natAbs : Int)).natAbs : Int) : Rat) * bp f.b m := by
      rw [absP_sub_comm hx (wv_can hb ..), ev.sg, wo_disF hb hx, ax, hM, bp_split hb (show m ≤ e by omega)]
      refine Eq.trans ?_ (ab_int hb _ _)
      congr 1
      push_cast
      grind
    rw [e1] at lt
    have l1 : ((M * f.b ^ (e - m).toNat - (X.natAbs : Int)).natAbs : Int) < f.T := by
      refine Int.not_le.mp fun z => ?_
      have := mul_le_bp hb z m
      grind
    obtain ⟨k', j', n, q, _⟩ := size_of hf _ (e := m) (Int.natCast_nonneg _) l1 hm (by omega) rfl
    exact ⟨k', j', n, by rw [q, e1]⟩
theorem sum_lack {f : Fm} (hf : FmOk f) {a c e t c' e' : Int} (h : NumOk f a c e) (h' : NumOk f t c' e') {s0 s k j : Int} {G : List Str} (r : RoundTo f "even" (addP (wv f.b a c e) (wv f.b t c' e')) s0 (.num s k j) G) :
    ∃ k' j', SizeAt f (subP (addP (wv f.b a c e) (wv f.b t c' e')) (wv f.b s k j)) k' j' := by
  have hb := hf.b2
  have main : ∀ {a c e t c' e' : Int}, NumOk f a c e → NumOk f t c' e' → e ≤ e' → RoundTo f "even" (addP (wv f.b a c e) (wv f.b t c' e')) s0 (.num s k j) G → ∃ k' j', SizeAt f (subP (addP (wv f.b a c e) (wv f.b t c' e')) (wv f.b s k j)) k' j' := fun {a c e t c' e'} h h' z r => by
    have u := wv_can hb a c e
    have v := wv_can hb t c' e'
    refine err_size hf (can_add u v) r h.e1 (X := sg a * c + sg t * c' * f.b ^ (e' - e).toNat) ?_ fun k0 e0 sd hp ev _ => ?_
    · rw [wo_add u v, wo_wv hb, wo_wv hb, bp_split hb z]
      push_cast
      grind
    · refine Std.lt_of_le_of_lt (even_nearest hf (can_add u v) hp ev h') ?_
      have e1 : wo (absP (subP (addP (wv f.b a c e) (wv f.b t c' e')) (wv f.b t c' e'))) = (((sg a * c).natAbs : Int) : Rat) * bp f.b e := by
        rw [wo_absP (can_sub (can_add u v) v), wo_sub (can_add u v) v, wo_add u v, ← ab_int hb, ← wo_wv hb]
        congr 1
        grind
      rw [e1]
      refine mul_lt_bp hb ?_ e
      have h0 := h.c0
      have h1 : c < f.T := h.c1
      unfold sg
      split <;> omega
  by_cases z : e ≤ e'
  · exact main h h' z r
  · rw [addP_comm] at r ⊢
    exact main h' h (by omega) r
theorem prod_lack {f : Fm} (hf : FmOk f) {a c e t c' e' : Int} (h : NumOk f a c e) (h' : NumOk f t c' e') (hl : f.lo ≤ e + e') {s0 s k j : Int} {G : List Str} (r : RoundTo f "even" (mulP (wv f.b a c e) (wv f.b t c' e')) s0 (.num s k j) G) :
    ∃ k' j', SizeAt f (subP (mulP (wv f.b a c e) (wv f.b t c' e')) (wv f.b s k j)) k' j' := by
  have hb := hf.b2
  have u := wv_can hb a c e
  have v := wv_can hb t c' e'
  have hX : wo (mulP (wv f.b a c e) (wv f.b t c' e')) = ((sg a * c * (sg t * c') : Int) : Rat) * bp f.b (e + e') := by
    rw [wo_mul u v, wo_wv hb, wo_wv hb, bp_add hb]
    push_cast
    grind
  refine err_size hf (can_mul u v) r hl hX fun k0 e0 sd hp ev lt => ?_
  have ax : wo (absP (mulP (wv f.b a c e) (wv f.b t c' e'))) = (((sg a * c * (sg t * c')).natAbs : Int) : Rat) * bp f.b (e + e') := by rw [wo_absP (can_mul u v), hX, ab_int hb]
  have p0 := bp_pos hb (e + e')
  have h0 := h.c0
  have h1 : c < f.T := h.c1
  have h0' := h'.c0
  have h1' : c' < f.T := h'.c1
  have F0 := hf.F_pos
  have T0 := hf.T_eq
  have kF : f.F ≤ k0 := by
    rcases hp.cF with q | q
    · omega
    · exact q
  have eX : ((sg a * c * (sg t * c')).natAbs : Int) = c * c' := by
    have a1 : ((sg a * c).natAbs : Int) = c := by unfold sg; split <;> omega
    have a2 : ((sg t * c').natAbs : Int) = c' := by unfold sg; split <;> omega
    rw [Int.natAbs_mul, Int.natCast_mul, a1, a2]
  rw [eX] at ax
  have le := hp.le
  rw [ax, bp_split hb (show e + e' ≤ e0 by omega)] at le
  have le : ((k0 * f.b ^ (e0 - (e + e')).toNat : Int) : Rat) * bp f.b (e + e') ≤ ((c * c' : Int) : Rat) * bp f.b (e + e') := by
    have e1 : ((k0 * f.b ^ (e0 - (e + e')).toNat : Int) : Rat) * bp f.b (e + e') = (k0 : Rat) * (((f.b ^ (e0 - (e + e')).toNat : Int) : Rat) * bp f.b (e + e')) := by
      rw [Rat.intCast_mul]
      grind
    rw [e1]
    exact le
  have leI : k0 * f.b ^ (e0 - (e + e')).toNat ≤ c * c' := by
    refine Int.not_lt.mp fun z => ?_
    have := mul_lt_bp hb z (e + e')
    grind
  have pp := powI_pos hb (e0 - (e + e')).toNat
  have s1 : f.F * f.b ^ (e0 - (e + e')).toNat ≤ k0 * f.b ^ (e0 - (e + e')).toNat := Int.mul_le_mul_of_nonneg_right kF (by omega)
  have s2 : c * c' ≤ c * f.T := Int.mul_le_mul_of_nonneg_left (by omega) h0
  have s3 : c * f.T < f.T * f.T := Int.mul_lt_mul_of_pos_right h1 (by omega)
  have s4 : f.F * f.b ^ (e0 - (e + e')).toNat < f.F * (f.b * f.T) := by
    have : f.F * (f.b * f.T) = f.T * f.T := by
      rw [T0]
      grind
    omega
  have s5 : f.b ^ (e0 - (e + e')).toNat < f.b * f.T := Int.lt_of_mul_lt_mul_left s4 (by omega)
  have s6 : f.b * f.T = f.b ^ (f.p.toNat + 1) := by
    unfold Fm.T
    rw [Int.pow_succ, Int.mul_comm]
  rw [s6] at s5
  have s7 : (e0 - (e + e')).toNat ≤ f.p.toNat := by
    refine Nat.not_lt.mp fun z => ?_
    have := pow_le_pow hb (show f.p.toNat + 1 ≤ (e0 - (e + e')).toNat by omega)
    omega
  have s8 : f.b ^ (e0 - (e + e')).toNat ≤ f.T := pow_le_pow hb s7
  have lo := ev.lo
  have up := ev.up
  have c1 : ((k0 + 1 : Int) : Rat) * bp f.b e0 = (k0 : Rat) * bp f.b e0 + bp f.b e0 := by
    push_cast
    grind
  rw [c1] at up
  have b1 : bp f.b e0 ≤ (f.T : Rat) * bp f.b (e + e') := by
    have := mul_le_bp hb s8 (e + e')
    rw [bp_split hb (show e + e' ≤ e0 by omega)]
    exact this
  have pe := bp_pos hb e0
  grind
theorem wvB_mid {f : Fm} (hf : FmOk f) (h1 : Bd 1400 (f.b ^ f.lo.natAbs)) (h2 : Bd 1400 (f.b ^ f.hi.natAbs)) : WvB f 2100 := fun s c e hn => by
  have e1 := hn.e1
  have e2 := hn.e2
  have c1 : c < f.T := hn.c1
  have c0 := hn.c0
  have pw : ∀ n : Nat, n ≤ e.natAbs → Bd 1400 (f.b ^ n) := fun n z => by
    rcases Int.le_total 0 e with h | h
    · exact bd_pow_le hf.b2 (by omega : n ≤ f.hi.natAbs) h2
    · exact bd_pow_le hf.b2 (by omega : n ≤ f.lo.natAbs) h1
  have one : Bd 1400 (1 : Int) := (Bd.lit64 1 (by decide)).up (by decide)
  have fe : Fra 1400 (powP f.b e) := by
    refine ⟨powP_can hf.b2 _, ?_, ?_⟩
    · unfold powP
      split
      · exact pw _ (by omega)
      · exact one
    · unfold powP
      split
      · exact one
      · exact pw _ (by omega)
  have fc : Fb 641 ((c, 1) : P2) := Fb.int (k := 640) ((hf.bdT.of_natAbs (show c.natAbs ≤ f.T.natAbs by omega)).up (by decide))
  have fm := (fc.mul fe.fb).up (show 641 + 1400 ≤ 2100 by decide)
  unfold wv
  split
  · exact fm.neg
  · exact fm
def fmN : List Fm := [⟨2, 53, -1074, 971⟩, ⟨10, 16, -398, 369⟩, ⟨2, 24, -149, 104⟩] ++ ([⟨2, 24, -40, 30⟩, ⟨10, 7, -20, 20⟩, ⟨2, 11, -24, 5⟩, ⟨36, 3, -5, 4⟩, ⟨10, 34, -40, 20⟩, ⟨2, 8, -50, 40⟩] ++ fmS)
theorem fmN_ok {f : Fm} (h : f ∈ fmN) : FmOk f ∧ WvB f 2100 := by
  have hf := fmOk_of (fm_of (c := fmB) (l := fmN) (by decide +kernel) h)
  have q : (decide ((f.b ^ f.lo.natAbs).natAbs < 2 ^ 1400) && decide ((f.b ^ f.hi.natAbs).natAbs < 2 ^ 1400)) = true := fm_of (c := fun f => decide ((f.b ^ f.lo.natAbs).natAbs < 2 ^ 1400) && decide ((f.b ^ f.hi.natAbs).natAbs < 2 ^ 1400)) (l := fmN) (by decide +kernel) h
  simp only [Bool.and_eq_true, decide_eq_true_eq] at q
  exact ⟨hf, wvB_mid hf q.1 q.2⟩
/-- what a rounded sum and its rest are -/
def PartTo (f : Fm) (x : P2) (s : Int) (d : D) : Prop := ∃ w G, RoundTo f "even" x s w G ∧ match w with
  | .num t k j => ∃ r, IsNum f (subP x (wv f.b t k j)) r ∧ d = .tuple [vlD (.num t k j), oD r]
  | _ => d = .none
theorem partTo_uniq {f : Fm} (hf : FmOk f) {x : P2} {s : Int} {d d' : D} (h : PartTo f x s d) (h' : PartTo f x s d') : d = d' := by
  obtain ⟨w, G, a, b⟩ := h
  obtain ⟨w', G', a', b'⟩ := h'
  obtain ⟨rfl, _⟩ := round_uniq hf a a'
  cases w with
  | num t k j =>
    obtain ⟨r, n, rfl⟩ := b
    obtain ⟨r', n', rfl⟩ := b'
    rw [isNum_uniq hf n n']
  | inf t => exact Eq.trans b (Eq.symm b')
  | nan => exact Eq.trans b (Eq.symm b')
theorem fit_oD {f : Fm} (hf : FmOk f) {x : P2} {r : Option Vl} (h : IsNum f x r) : Fit 2 18000 (oD r) := by
  cases r with
  | none => exact Fit.none.up (by decide) (by decide)
  | some v =>
    obtain ⟨c, e, rfl, q⟩ := h
    exact fit_vl hf (show VlOk f (.num (if x.1 < 0 then 1 else 0) c e) from q.1.sign (sgF01 x))
theorem partTo_fit {f : Fm} (hf : FmOk f) {x : P2} {s : Int} (hs : s = 0 ∨ s = 1) {d : D} (h : PartTo f x s d) : Fit 3 37000 d := by
  obtain ⟨w, G, a, b⟩ := h
  have v := (one_round hf hs).vl _ _ a
  cases w with
  | num t k j =>
    obtain ⟨r, n, rfl⟩ := b
    exact (Fit.tup (k := 2) (w := 18000) (all_cons (fit_vl hf v) (all_cons (fit_oD hf n) all_nil))).up (by decide) (by simp)
  | inf t =>
    have b : d = .none := b
    rw [b]
    exact Fit.none.up (by decide) (by decide)
  | nan =>
    have b : d = .none := b
    rw [b]
    exact Fit.none.up (by decide) (by decide)
end VI

/-! PL24: rounding never falls (k14). -/
namespace VI
open PySem
def gR (f : Fm) (way : Str) (s r : Int) : Int := if f.X ≤ r then (if infB way s = true then f.X else f.X - 1) else r
theorem W_mul {f : Fm} (hf : FmOk f) {a b : Int} (h : a ≤ b) : a * f.W ≤ b * f.W := Int.mul_le_mul_of_nonneg_right h (by have := hf.W_pos; omega)
/-- beyond the greatest -/
theorem over_X {f : Fm} (hf : FmOk f) {c e : Int} (c0 : 0 ≤ c) (c1 : c < f.T) (cF : e = f.lo ∨ f.F ≤ c) : f.hi < e ↔ f.X ≤ f.M c e := by
  have TF := hf.TF
  have lh := hf.lh
  unfold Fm.X Fm.M
  by_cases h : f.hi < e
  · have h1 := W_mul hf (show f.hi - f.lo + 1 ≤ e - f.lo by omega)
    have e1 : (f.hi - f.lo + 1) * f.W = (f.hi - f.lo) * f.W + f.W := by grind
    rw [e1] at h1
    have : f.F ≤ c := by omega
    exact ⟨fun _ => by omega, fun _ => h⟩
  · have h1 := W_mul hf (show e - f.lo ≤ f.hi - f.lo by omega)
    exact ⟨fun z => absurd z h, fun z => by omega⟩
theorem upC_M {f : Fm} (hf : FmOk f) {x : P2} {c e : Int} {sd : Option Int} (hp : PartAt f x c e sd) (way : Str) (s : Int) :
    0 ≤ (upC f way s c e sd).1 ∧ (upC f way s c e sd).1 < f.T ∧ ((upC f way s c e sd).2 = f.lo ∨ f.F ≤ (upC f way s c e sd).1) ∧ f.M (upC f way s c e sd).1 (upC f way s c e sd).2 = f.M c e + (if upB way s c sd = true then 1 else 0) := by
  have TF := hf.TF
  have F0 := hf.F_pos
  have W0 := hf.W_pos
  have c0 := hp.c0
  have c1 := hp.c1
  have cF := hp.cF
  unfold upC uN
  split
  · split
    · refine ⟨by show 0 ≤ f.F; omega, by show f.F < f.T; omega, .inr (Int.le_refl _), ?_⟩
      show f.M f.F (e + 1) = _
      unfold Fm.M
      have e1 : (e + 1 - f.lo) * f.W = (e - f.lo) * f.W + f.W := by grind
      rw [e1]
      omega
    · refine ⟨by show 0 ≤ c + 1; omega, by show c + 1 < f.T; omega, ?_, ?_⟩
      · show e = f.lo ∨ f.F ≤ c + 1
        omega
      · show f.M (c + 1) e = _
        unfold Fm.M
        omega
  · refine ⟨c0, c1, cF, ?_⟩
    show f.M c e = _
    omega
theorem rk_fin {f : Fm} (hf : FmOk f) {x : P2} {c e : Int} {sd : Option Int} (hp : PartAt f x c e sd) (way : Str) {s : Int} (hs : s = 0 ∨ s = 1) :
    rkV f (finV f way s c e sd) = sg s * gR f way s (f.M c e + if upB way s c sd = true then 1 else 0) := by
  obtain ⟨a, b, cc, d⟩ := upC_M hf hp way s
  have o := over_X hf a b cc
  rw [d] at o
  unfold finV gR
  by_cases h : f.hi < (upC f way s c e sd).2
  · rw [if_pos h, if_pos (o.mp h)]
    split
    · show (if s = 1 then -f.X else f.X) = _
      unfold sg
      split <;> omega
    · rw [rk_num hs]
      congr 1
      unfold Fm.M Fm.X
      omega
  · rw [if_neg h, if_neg (fun z => h (o.mpr z)), rk_num hs, d]
theorem gR_mono {f : Fm} (way : Str) (s : Int) {r r' : Int} (h : r ≤ r') : gR f way s r ≤ gR f way s r' := by
  unfold gR
  split <;> split <;> (try split) <;> omega
theorem gR_nn {f : Fm} (hf : FmOk f) (way : Str) (s : Int) {r : Int} (h : 0 ≤ r) : 0 ≤ gR f way s r := by
  have := hf.XF
  have := hf.F_pos
  have := hf.TF
  have := hf.W_pos
  unfold gR
  split <;> (try split) <;> omega
/-- a greater size is not rounded to a lesser rank -/
theorem size_mono {f : Fm} (hf : FmOk f) {x y : P2} {c e c' e' : Int} {sd sd' : Option Int} (hp : PartAt f x c e sd) (hq : PartAt f y c' e' sd') (h : wo x ≤ wo y) (way : Str) (s : Int) :
    f.M c e + (if upB way s c sd = true then 1 else 0) ≤ f.M c' e' + (if upB way s c' sd' = true then 1 else 0) := by
  have TF := hf.TF
  have W0 := hf.W_pos
  have c0 := hp.c0
  have c0' := hq.c0
  have c1 := hp.c1
  have c1' := hq.c1
  have ee : e ≤ e' := by
    refine Int.not_lt.mp fun z => ?_
    have Fc : f.F ≤ c := by
      have := hq.e0
      rcases hp.cF with q | q
      · omega
      · exact q
    have := low_lt hf z Fc (c' := c') (by omega)
    exact absurd (Std.lt_of_lt_of_le hq.lt (Rat.le_trans this (Rat.le_trans hp.le h))) Rat.lt_irrefl
  by_cases el : e < e'
  · have Fc : f.F ≤ c' := by
      have := hp.e0
      rcases hq.cF with q | q
      · omega
      · exact q
    have h1 := W_mul hf (show e - f.lo + 1 ≤ e' - f.lo by omega)
    have e1 : (e - f.lo + 1) * f.W = (e - f.lo) * f.W + f.W := by grind
    rw [e1] at h1
    unfold Fm.M
    split <;> split <;> omega
  · have el : e = e' := by omega
    subst el
    have cc : c ≤ c' := by
      have := bp_lt hf.b2 (Rat.le_trans hp.le h) hq.lt
      omega
    by_cases cl : c < c'
    · unfold Fm.M
      split <;> split <;> omega
    · have cl : c = c' := by omega
      subst cl
      have up2 : upB way s c sd = true → upB way s c sd' = true := fun u1 => by
        have s1 := hq.sd
        have s2 := hp.sd
        cases sd with
        | none => cases u1
        | some z' =>
          have lt := Std.lt_of_lt_of_le s2.1 h
          cases sd' with
          | none =>
            have s1 : (c : Rat) * bp f.b e = wo y := s1
            rw [s1] at lt
            exact absurd lt Rat.lt_irrefl
          | some z =>
            have two : ((2 * c + 1 : Int) : Rat) * bp f.b e = 2 * ((c : Rat) * bp f.b e) + bp f.b e := by
              push_cast
              grind
            have zz : z' ≤ z := by
              rcases s1.2 with ⟨rfl, a⟩ | ⟨rfl, a⟩ | ⟨rfl, a⟩ <;> rcases s2.2 with ⟨rfl, a'⟩ | ⟨rfl, a'⟩ | ⟨rfl, a'⟩ <;> first | omega | (exfalso; grind)
            have u1 : (if way = "zero" then false else if way = "up" then decide (s = 0) else if way = "down" then !decide (s = 0) else if z' = 0 then (decide (way = "away") || decide (c % 2 = 1)) else decide (0 < z')) = true := u1
            show (if way = "zero" then false else if way = "up" then decide (s = 0) else if way = "down" then !decide (s = 0) else if z = 0 then (decide (way = "away") || decide (c % 2 = 1)) else decide (0 < z)) = true
            by_cases a1 : way = "zero"
            · rw [if_pos a1] at u1
              cases u1
            rw [if_neg a1] at u1 ⊢
            by_cases a2 : way = "up"
            · rw [if_pos a2] at u1 ⊢
              exact u1
            rw [if_neg a2] at u1 ⊢
            by_cases a3 : way = "down"
            · rw [if_pos a3] at u1 ⊢
              exact u1
            rw [if_neg a3] at u1 ⊢
            by_cases z1 : z' = 0
            · rw [if_pos z1] at u1
              by_cases z0 : z = 0
              · rw [if_pos z0]
                exact u1
              · rw [if_neg z0]
                exact decide_eq_true (by omega)
            · rw [if_neg z1] at u1
              have u1 := of_decide_eq_true u1
              rw [if_neg (by omega)]
              exact decide_eq_true (by omega)
      by_cases u1 : upB way s c sd = true
      · rw [if_pos u1, if_pos (up2 u1)]
        exact Int.le_refl _
      · rw [if_neg u1]
        split <;> omega
theorem wo_neg_iff {x : P2} (hx : Can x) : (wo x < 0 ↔ x.1 < 0) ∧ (0 < wo x ↔ 0 < x.1) := by
  have a := below_iff hx can01
  have b := below_iff can01 hx
  rw [wo01] at a b
  rw [← a, ← b]
  refine ⟨?_, ?_⟩
  · show _ * 1 < 0 * _ ↔ _
    omega
  · show 0 * _ < _ * 1 ↔ _
    omega
theorem rk_zero {f : Fm} (s : Int) : rkV f (.num s 0 f.lo) = 0 := by
  show (if s = 1 then -((f.lo - f.lo) * f.W + 0) else (f.lo - f.lo) * f.W + 0) = 0
  rw [Int.sub_self, Int.zero_mul]
  split <;> rfl
/-- rounding never falls -/
theorem round_mono {f : Fm} (hf : FmOk f) {way : Str} {x y : P2} (hx : Can x) (hy : Can y) (h : wo x ≤ wo y) {s s' : Int} {w w' : Vl} {G G' : List Str} (r : RoundTo f way x s w G) (r' : RoundTo f way y s' w' G') : rkV f w ≤ rkV f w' := by
  have nx := wo_neg_iff hx
  have ny := wo_neg_iff hy
  have ax := wo_absP hx
  have ay := wo_absP hy
  have Mn : ∀ {z : P2} {c e sd}, PartAt f z c e sd → 0 ≤ f.M c e := fun {z c e sd} hp => by
    unfold Fm.M
    have := Int.mul_nonneg (show 0 ≤ e - f.lo by have := hp.e0; omega) (show 0 ≤ f.W by have := hf.W_pos; omega)
    have := hp.c0
    omega
  rcases r with ⟨z, rfl, _⟩ | ⟨z, c, e, sd, hp, rfl, _⟩
  · rw [rk_zero]
    rcases r' with ⟨z', rfl, _⟩ | ⟨z', c', e', sd', hq, rfl, _⟩
    · rw [rk_zero]
      exact Int.le_refl _
    · have py : ¬ y.1 < 0 := fun l => by
        have := ny.1.mpr l
        have : wo x < 0 := by grind
        have := nx.1.mp this
        omega
      rw [rk_fin hf hq way (sgF01 y)]
      have e1 : sgF y = 0 := if_neg py
      rw [e1]
      have := gR_nn hf way 0 (show 0 ≤ f.M c' e' + (if upB way 0 c' sd' = true then 1 else 0) by have := Mn hq; split <;> omega)
      show 0 ≤ 1 * _
      omega
  · rw [rk_fin hf hp way (sgF01 x)]
    have g1 := fun s => gR_nn hf way s (show 0 ≤ f.M c e + (if upB way s c sd = true then 1 else 0) by have := Mn hp; split <;> omega)
    by_cases lx : x.1 < 0
    · have e1 : sgF x = 1 := if_pos lx
      rw [e1]
      have g1 := g1 1
      rcases r' with ⟨z', rfl, _⟩ | ⟨z', c', e', sd', hq, rfl, _⟩
      · rw [rk_zero]
        show -1 * _ ≤ 0
        omega
      · rw [rk_fin hf hq way (sgF01 y)]
        have g2 := fun s => gR_nn hf way s (show 0 ≤ f.M c' e' + (if upB way s c' sd' = true then 1 else 0) by have := Mn hq; split <;> omega)
        by_cases ly : y.1 < 0
        · have e2 : sgF y = 1 := if_pos ly
          rw [e2]
          have le : wo (absP y) ≤ wo (absP x) := by
            rw [ax, ay]
            have := nx.1.mpr lx
            have := ny.1.mpr ly
            unfold ab
            split <;> split <;> grind
          have := gR_mono (f := f) way 1 (size_mono hf hq hp le way 1)
          show -1 * _ ≤ -1 * _
          omega
        · have e2 : sgF y = 0 := if_neg ly
          rw [e2]
          have g2 := g2 0
          show -1 * _ ≤ 1 * _
          omega
    · have e1 : sgF x = 0 := if_neg lx
      have px := nx.2.mpr (by omega)
      have py := ny.2.mp (by grind)
      rw [e1]
      rcases r' with ⟨z', rfl, _⟩ | ⟨z', c', e', sd', hq, rfl, _⟩
      · omega
      · rw [rk_fin hf hq way (sgF01 y)]
        have e2 : sgF y = 0 := if_neg (by omega)
        rw [e2]
        have le : wo (absP x) ≤ wo (absP y) := by
          rw [ax, ay]
          unfold ab
          split <;> split <;> grind
        have := gR_mono (f := f) way 0 (size_mono hf hp hq le way 0)
        show 1 * _ ≤ 1 * _
        omega
/-! ### opposites -/
def oppW (way : Str) : Str := if way = "up" then "down" else if way = "down" then "up" else way
theorem opp_up {way : Str} {s : Int} (hs : s = 0 ∨ s = 1) (c : Int) (sd : Option Int) : upB (oppW way) (1 - s) c sd = upB way s c sd := by
  cases sd with
  | none => rfl
  | some z =>
    show (if oppW way = "zero" then false else if oppW way = "up" then decide (1 - s = 0) else if oppW way = "down" then !decide (1 - s = 0) else if z = 0 then (decide (oppW way = "away") || decide (c % 2 = 1)) else decide (0 < z)) = (if way = "zero" then false else if way = "up" then decide (s = 0) else if way = "down" then !decide (s = 0) else if z = 0 then (decide (way = "away") || decide (c % 2 = 1)) else decide (0 < z))
    have x1 : ("up" : Str) ≠ "zero" := by decide
    have x2 : ("down" : Str) ≠ "zero" := by decide
    have x3 : ("down" : Str) ≠ "up" := by decide
    have x4 : ("up" : Str) ≠ "down" := by decide
    unfold oppW
    by_cases a : way = "up"
    · rw [if_pos a, if_neg x2, if_neg x3, if_pos rfl, if_neg (by rw [a]; exact x1), if_pos a]
      rcases hs with rfl | rfl <;> decide
    · rw [if_neg a]
      by_cases b : way = "down"
      · rw [if_pos b, if_neg x1, if_pos rfl, if_neg (by rw [b]; exact x2), if_neg a, if_pos b]
        rcases hs with rfl | rfl <;> decide
      · simp only [a, b, if_false]
theorem opp_inf {way : Str} {s : Int} (hs : s = 0 ∨ s = 1) : infB (oppW way) (1 - s) = infB way s := by
  have x3 : ("down" : Str) ≠ "up" := by decide
  have x5 : ("up" : Str) ≠ "even" := by decide
  have x6 : ("up" : Str) ≠ "away" := by decide
  have x7 : ("down" : Str) ≠ "even" := by decide
  have x8 : ("down" : Str) ≠ "away" := by decide
  unfold infB oppW
  by_cases a : way = "up"
  · rw [if_pos a, a]
    rcases hs with rfl | rfl <;> decide
  · rw [if_neg a]
    by_cases b : way = "down"
    · rw [if_pos b, b]
      rcases hs with rfl | rfl <;> decide
    · rw [if_neg b]
      rcases hs with rfl | rfl <;> simp [a, b]
theorem opp_fin {f : Fm} {way : Str} {s : Int} (hs : s = 0 ∨ s = 1) (c e : Int) (sd : Option Int) : finV f (oppW way) (1 - s) c e sd = oppV (finV f way s c e sd) ∧ finG f (oppW way) (1 - s) c e sd = finG f way s c e sd := by
  have u : upC f (oppW way) (1 - s) c e sd = upC f way s c e sd := by
    unfold upC
    rw [opp_up hs]
  unfold finV finG
  rw [u, opp_inf hs]
  refine ⟨?_, rfl⟩
  split
  · split <;> rfl
  · rfl
theorem wv_opp (b s c e : Int) (hs : s = 0 ∨ s = 1) : wv b (1 - s) c e = (-(wv b s c e).1, (wv b s c e).2) := by
  unfold wv
  rcases hs with rfl | rfl
  · simp
  · simp
theorem turned_opp {f o : Fm} {way : Str} {v w : Vl} {G : List Str} (hv : VlOk f v) (h : TurnedTo f way o v w G) : TurnedTo f (oppW way) o (oppV v) (oppV w) G := by
  cases v with
  | nan => exact ⟨by rw [h.1], h.2⟩
  | inf s => exact ⟨by rw [h.1], h.2⟩
  | num s c e =>
    have hn : NumOk f s c e := hv
    show RoundTo o (oppW way) (wv f.b (1 - s) c e) (1 - s) (oppV w) G
    have h : RoundTo o way (wv f.b s c e) s w G := h
    rw [wv_opp _ _ _ _ hn.s]
    generalize wv f.b s c e = x at h ⊢
    rcases h with ⟨z, rfl, rfl⟩ | ⟨z, c', e', sd, hp, rfl, rfl⟩
    · exact .inl ⟨by show -x.1 = 0; omega, rfl, rfl⟩
    · have a : absP (-x.1, x.2) = absP x := by
        unfold absP
        rw [Int.natAbs_neg]
      have sF : sgF (-x.1, x.2) = 1 - sgF x := by
        unfold sgF
        show (if -x.1 < 0 then (1 : Int) else 0) = _
        split <;> split <;> omega
      have o1 := opp_fin (f := o) (way := way) (sgF01 x) c' e' sd
      refine .inr ⟨by show -x.1 ≠ 0; omega, c', e', sd, by rw [a]; exact hp, ?_, ?_⟩
      · rw [sF]
        exact o1.1.symm
      · rw [sF]
        exact o1.2.symm
/-! ### between -/
def vL (f : Fm) (s c e : Int) : Vl := if f.hi < e then .num s (f.T - 1) f.hi else .num s c e
def vU (f : Fm) (s c e : Int) (sd : Option Int) : Vl := if sd.isSome = true then (if f.hi < (uN f c e).2 then .inf s else .num s (uN f c e).1 (uN f c e).2) else (if f.hi < e then .inf s else .num s c e)
theorem upB_iso {way : Str} {s c : Int} {sd : Option Int} (h : upB way s c sd = true) : sd.isSome = true := by
  cases sd with
  | none => cases h
  | some z => rfl
theorem fin_two {f : Fm} {way : Str} (hw : way ∈ ways5) {s : Int} (hs : s = 0 ∨ s = 1) (c e : Int) (sd : Option Int) : finV f way s c e sd = vL f s c e ∨ finV f way s c e sd = vU f s c e sd := by
  unfold finV
  by_cases u : upB way s c sd = true
  · right
    have i : infB way s = true := by
      cases sd with
      | none => cases u
      | some z =>
        simp only [ways5, List.mem_cons, List.not_mem_nil, or_false] at hw
        rcases hw with rfl | rfl | rfl | rfl | rfl <;> rcases hs with rfl | rfl <;> first | decide | (exfalso; revert u; decide) | (exfalso; exact absurd u (by decide)) | (exfalso; exact Bool.noConfusion u)
    have e1 : upC f way s c e sd = uN f c e := by
      unfold upC
      rw [if_pos u]
    unfold vU
    rw [e1, i, if_pos rfl, if_pos (upB_iso u)]
  · have e1 : upC f way s c e sd = (c, e) := by
      unfold upC
      rw [if_neg u]
    rw [e1]
    show (if f.hi < e then _ else _) = _ ∨ _
    by_cases h : f.hi < e
    · rw [if_pos h]
      by_cases i : infB way s = true
      · right
        rw [if_pos i]
        have hh : f.hi < (uN f c e).2 := by
          unfold uN
          split
          · show f.hi < e + 1
            omega
          · exact h
        unfold vU
        rw [if_pos hh, if_pos h]
        split <;> rfl
      · left
        rw [if_neg i]
        unfold vL
        rw [if_pos h]
    · left
      rw [if_neg h]
      unfold vL
      rw [if_neg h]
theorem fin_down {f : Fm} {way : Str} {s : Int} (hw : (way = "down" ∧ s = 0) ∨ (way = "up" ∧ s = 1)) (c e : Int) (sd : Option Int) : finV f way s c e sd = vL f s c e := by
  have u : upB way s c sd = false := by
    cases sd with
    | none => rfl
    | some z => rcases hw with ⟨rfl, rfl⟩ | ⟨rfl, rfl⟩ <;> rfl
  have i : infB way s = false := by rcases hw with ⟨rfl, rfl⟩ | ⟨rfl, rfl⟩ <;> decide
  have e1 : upC f way s c e sd = (c, e) := by
    unfold upC
    rw [u]
    rfl
  unfold finV vL
  rw [e1, i]
  rfl
theorem fin_upp {f : Fm} {way : Str} {s : Int} (hw : (way = "up" ∧ s = 0) ∨ (way = "down" ∧ s = 1)) (c e : Int) (sd : Option Int) : finV f way s c e sd = vU f s c e sd := by
  have i : infB way s = true := by rcases hw with ⟨rfl, rfl⟩ | ⟨rfl, rfl⟩ <;> decide
  cases sd with
  | none =>
    unfold finV vU
    rw [i]
    rfl
  | some z =>
    have u : upB way s c (some z) = true := by rcases hw with ⟨rfl, rfl⟩ | ⟨rfl, rfl⟩ <;> rfl
    have e1 : upC f way s c e (some z) = uN f c e := by
      unfold upC
      rw [if_pos u]
    unfold finV vU
    rw [e1, i]
    rfl
theorem cmpP_wo {p q : P2} (hp : Can p) (hq : Can q) : (wo p = wo q → cmpP p q = 0) ∧ (wo p < wo q → cmpP p q = -1) := by
  have a := below_iff hp hq
  have b := below_iff hq hp
  unfold cmpP cmpI
  refine ⟨fun h => ?_, fun h => ?_⟩
  · rw [if_neg (fun z => by have := b.mp z; rw [h] at this; exact Rat.lt_irrefl this), if_neg (fun z => by have := a.mp z; rw [h] at this; exact Rat.lt_irrefl this)]
    rfl
  · rw [if_neg (fun z => by have := b.mp z; exact Rat.lt_irrefl (Std.lt_trans this h)), if_pos (a.mpr h)]
    rfl
theorem wo_sgF {x : P2} : wo x = ((sg (sgF x) : Int) : Rat) * wo (absP x) := by
  by_cases z : x.1 < 0
  · have e1 : wo x = -wo (absP x) := by
      rw [← wo_neg]
      congr 1
      show x = (-(x.1.natAbs : Int), x.2)
      rw [show -(x.1.natAbs : Int) = x.1 by omega]
    have e2 : sgF x = 1 := if_pos z
    rw [e1, e2]
    have : ((sg 1 : Int) : Rat) = -1 := rfl
    rw [this]
    grind
  · have e1 : wo x = wo (absP x) := by
      congr 1
      show x = ((x.1.natAbs : Int), x.2)
      rw [show (x.1.natAbs : Int) = x.1 by omega]
    have e2 : sgF x = 0 := if_neg z
    rw [e2, ← e1]
    simp [sg]
theorem vL_num {f : Fm} (hf : FmOk f) {x : P2} {c e : Int} {sd : Option Int} (hp : PartAt f x c e sd) (s : Int) :
    ∃ k j, vL f s c e = .num s k j ∧ ((sd = none ∧ e ≤ f.hi → (k : Rat) * bp f.b j = wo x) ∧ (¬ (sd = none ∧ e ≤ f.hi) → (k : Rat) * bp f.b j < wo x)) := by
  unfold vL
  by_cases h : f.hi < e
  · rw [if_pos h]
    refine ⟨_, _, rfl, fun z => absurd z.2 (by omega), fun _ => ?_⟩
    have Fc : f.F ≤ c := by
      have := hf.lh
      rcases hp.cF with q | q
      · omega
      · exact q
    have h1 := low_lt hf h Fc (c' := f.T - 1) (by omega)
    have h2 := mul_lt_bp hf.b2 (show f.T - 1 < f.T - 1 + 1 by omega) f.hi
    exact Std.lt_of_lt_of_le h2 (Rat.le_trans h1 hp.le)
  · rw [if_neg h]
    refine ⟨_, _, rfl, fun z => ?_, fun z => ?_⟩
    · have s1 := hp.sd
      rw [z.1] at s1
      exact s1
    · have s1 := hp.sd
      cases sd with
      | none => exact absurd ⟨rfl, by omega⟩ z
      | some q => exact s1.1
theorem vU_num {f : Fm} (hf : FmOk f) {x : P2} {c e : Int} {sd : Option Int} (hp : PartAt f x c e sd) (s : Int) :
    (vU f s c e sd = .inf s ∧ ¬ (sd = none ∧ e ≤ f.hi)) ∨ ∃ k j, vU f s c e sd = .num s k j ∧ ((sd = none ∧ e ≤ f.hi → (k : Rat) * bp f.b j = wo x) ∧ (¬ (sd = none ∧ e ≤ f.hi) → wo x < (k : Rat) * bp f.b j)) := by
  unfold vU
  cases sd with
  | none =>
    rw [if_neg (by decide)]
    by_cases h : f.hi < e
    · rw [if_pos h]
      exact .inl ⟨rfl, fun z => absurd z.2 (by omega)⟩
    · rw [if_neg h]
      exact .inr ⟨_, _, rfl, fun z => hp.sd, fun z => absurd ⟨rfl, by omega⟩ z⟩
  | some z =>
    rw [if_pos (show (some z).isSome = true from rfl)]
    by_cases h : f.hi < (uN f c e).2
    · rw [if_pos h]
      exact .inl ⟨rfl, fun z => by cases z.1⟩
    · rw [if_neg h]
      refine .inr ⟨_, _, rfl, (fun z => by cases z.1), fun _ => ?_⟩
      rw [uN_wo hf]
      exact hp.lt
theorem betw {f f' : Fm} (hf : FmOk f) (hf' : FmOk f') (hb : f'.b = f.b) {s c0 e0 : Int} (hv : NumOk f' s c0 e0) {wd wu : Vl} {Gd Gu : List Str}
    (rd : TurnedTo f' "down" f (.num s c0 e0) wd Gd) (ru : TurnedTo f' "up" f (.num s c0 e0) wu Gu) :
    ∃ t : Int, (t = 0 ∨ t = -1) ∧ ordD f.b wd f'.b (.num s c0 e0) = .int t ∧ ordD f'.b (.num s c0 e0) f.b wu = .int t ∧ (t ≠ 0 → rkV f wu = rkV f wd + 1 ∧ wd ≠ .inf 0) ∧
      (∀ way ∈ ways5, ∀ w G, TurnedTo f' way f (.num s c0 e0) w G → w = wd ∨ w = wu) := by
  have rd : RoundTo f "down" (wv f'.b s c0 e0) s wd Gd := rd
  have ru : RoundTo f "up" (wv f'.b s c0 e0) s wu Gu := ru
  have cx := wv_can hf'.b2 s c0 e0
  have hb2 := hf.b2
  rcases rd with ⟨z, rfl, _⟩ | ⟨z, c, e, sd, hp, rfl, _⟩
  · rcases ru with ⟨_, rfl, _⟩ | ⟨z', _⟩
    · have cz := wv_can hb2 s 0 f.lo
      have w1 : wo (wv f'.b s c0 e0) = 0 := by
        unfold wo
        rw [z, Rat.div_def]
        simp
      have w2 : wo (wv f.b s 0 f.lo) = 0 := by
        rw [wo_wv hb2]
        simp
      refine ⟨0, .inl rfl, ?_, ?_, fun z => absurd rfl z, fun way _ w G r => ?_⟩
      · show PyData.int (cmpP _ _) = _
        rw [(cmpP_wo cz cx).1 (by rw [w1, w2])]
      · show PyData.int (cmpP _ _) = _
        rw [(cmpP_wo cx cz).1 (by rw [w1, w2])]
      · have r : RoundTo f way (wv f'.b s c0 e0) s w G := r
        rcases r with ⟨_, rfl, _⟩ | ⟨z', _⟩
        · exact .inl rfl
        · exact absurd z z'
    · exact absurd z z'
  · rcases ru with ⟨z', _⟩ | ⟨_, c', e', sd', hq, rfl, _⟩
    · exact absurd z' z
    obtain ⟨rfl, rfl, rfl⟩ := part_uniq hf hp hq
    have s01 := sgF01 (wv f'.b s c0 e0)
    have cc : c0 ≠ 0 := (wv_sign hf' hv).1.mp z
    have es : sgF (wv f'.b s c0 e0) = s := sgF_wv hf' hv cc
    have wx := wo_sgF (x := wv f'.b s c0 e0)
    rw [es] at wx s01 ⊢
    have fo : ∀ way ∈ ways5, ∀ w G, TurnedTo f' way f (.num s c0 e0) w G → w = vL f s c e ∨ w = vU f s c e sd := fun way hw w G r => by
      have r : RoundTo f way (wv f'.b s c0 e0) s w G := r
      rcases r with ⟨z', _⟩ | ⟨_, c2, e2, sd2, h2, rfl, _⟩
      · exact absurd z' z
      · obtain ⟨rfl, rfl, rfl⟩ := part_uniq hf hp h2
        rw [es]
        exact fin_two hw s01 c e sd
    obtain ⟨k, j, eL, L1, L2⟩ := vL_num hf hp s
    have U := vU_num hf hp s
    have oX := over_X hf hp.c0 hp.c1 hp.cF
    -- ranks
    have rL : ∀ way : Str, (way = "down" ∧ s = 0) ∨ (way = "up" ∧ s = 1) → rkV f (vL f s c e) = sg s * (if f.X ≤ f.M c e then f.X - 1 else f.M c e) := fun way hw => by
      have u : upB way s c sd = false := by
        cases sd with
        | none => rfl
        | some z => rcases hw with ⟨rfl, rfl⟩ | ⟨rfl, rfl⟩ <;> rfl
      have i : infB way s = false := by rcases hw with ⟨rfl, rfl⟩ | ⟨rfl, rfl⟩ <;> decide
      have := rk_fin hf hp way s01
      rw [fin_down hw, u] at this
      rw [this]
      unfold gR
      rw [i]
      show sg s * (if f.X ≤ f.M c e + 0 then f.X - 1 else f.M c e + 0) = _
      rw [Int.add_zero]
    have rU : ∀ way : Str, (way = "up" ∧ s = 0) ∨ (way = "down" ∧ s = 1) → rkV f (vU f s c e sd) = sg s * (if f.X ≤ f.M c e + (if sd.isSome = true then 1 else 0) then f.X else f.M c e + (if sd.isSome = true then 1 else 0)) := fun way hw => by
      have u : upB way s c sd = sd.isSome := by
        cases sd with
        | none => rfl
        | some z => rcases hw with ⟨rfl, rfl⟩ | ⟨rfl, rfl⟩ <;> rfl
      have i : infB way s = true := by rcases hw with ⟨rfl, rfl⟩ | ⟨rfl, rfl⟩ <;> decide
      have := rk_fin hf hp way s01
      rw [fin_upp hw, u] at this
      rw [this]
      unfold gR
      rw [i]
      rfl
    have nx : ¬ (sd = none ∧ e ≤ f.hi) → (if f.X ≤ f.M c e + (if sd.isSome = true then 1 else 0) then f.X else f.M c e + (if sd.isSome = true then 1 else 0)) = (if f.X ≤ f.M c e then f.X - 1 else f.M c e) + 1 := fun np => by
      cases sd with
      | none =>
        have : f.X ≤ f.M c e := oX.mp (by
          have : ¬ e ≤ f.hi := fun q => np ⟨rfl, q⟩
          omega)
        rw [if_neg (show ¬ (none : Option Int).isSome = true by decide), Int.add_zero, if_pos this, if_pos this]
        omega
      | some z =>
        rw [if_pos (show (some z).isSome = true from rfl)]
        split <;> split <;> omega
    rcases s01 with s0 | s0
    · have fd := fin_down (f := f) (way := "down") (s := s) (.inl ⟨rfl, s0⟩) c e sd
      have fu := fin_upp (f := f) (way := "up") (s := s) (.inl ⟨rfl, s0⟩) c e sd
      rw [fd, fu]
      have rL := rL "down" (.inl ⟨rfl, s0⟩)
      have rU := rU "up" (.inl ⟨rfl, s0⟩)
      have sg1 : sg s = 1 := by rw [s0]; rfl
      rw [sg1, Int.one_mul] at rL rU
      have wx : wo (wv f'.b s c0 e0) = wo (absP (wv f'.b s c0 e0)) := by rw [wx, sg1]; simp
      rw [eL] at fo rL ⊢
      have cw := wv_can hb2 s k j
      have ww : wo (wv f.b s k j) = (k : Rat) * bp f.b j := by rw [wo_wv hb2, sg1, Int.one_mul]
      by_cases P : sd = none ∧ e ≤ f.hi
      · refine ⟨0, .inl rfl, ?_, ?_, fun z => absurd rfl z, fo⟩
        · show PyData.int (cmpP _ _) = _
          rw [(cmpP_wo cw cx).1 (by rw [ww, L1 P, wx])]
        · rcases U with ⟨_, np⟩ | ⟨k', j', eU, U1, _⟩
          · exact absurd P np
          · rw [eU]
            have cw' := wv_can hb2 s k' j'
            show PyData.int (cmpP _ _) = _
            rw [(cmpP_wo cx cw').1 (by rw [wo_wv hb2, sg1, Int.one_mul, U1 P, wx])]
      · refine ⟨-1, .inr rfl, ?_, ?_, fun _ => ⟨by rw [rL, rU, nx P], fun z => by cases z⟩, fo⟩
        · show PyData.int (cmpP _ _) = _
          rw [(cmpP_wo cw cx).2 (by rw [ww, wx]; exact L2 P)]
        · rcases U with ⟨eU, np⟩ | ⟨k', j', eU, _, U2⟩
          · rw [eU, s0]
            rfl
          · rw [eU]
            have cw' := wv_can hb2 s k' j'
            show PyData.int (cmpP _ _) = _
            rw [(cmpP_wo cx cw').2 (by rw [wo_wv hb2, sg1, Int.one_mul, wx]; exact U2 P)]
    · have fd := fin_upp (f := f) (way := "down") (s := s) (.inr ⟨rfl, s0⟩) c e sd
      have fu := fin_down (f := f) (way := "up") (s := s) (.inr ⟨rfl, s0⟩) c e sd
      rw [fd, fu]
      have rL := rL "up" (.inr ⟨rfl, s0⟩)
      have rU := rU "down" (.inr ⟨rfl, s0⟩)
      have sg1 : sg s = -1 := by rw [s0]; rfl
      rw [sg1] at rL rU
      have wx : wo (wv f'.b s c0 e0) = -wo (absP (wv f'.b s c0 e0)) := by
        have q : ((-1 : Int) : Rat) = -1 := rfl
        rw [wx, sg1, q]
        grind
      rw [eL] at fo rL ⊢
      have cw := wv_can hb2 s k j
      have ws : ∀ k j : Int, wo (wv f.b s k j) = -((k : Rat) * bp f.b j) := fun k j => by
        rw [wo_wv hb2, sg1]
        push_cast
        grind
      have fo : ∀ way ∈ ways5, ∀ w G, TurnedTo f' way f (.num s c0 e0) w G → w = vU f s c e sd ∨ w = .num s k j := fun way hw w G r => (fo way hw w G r).symm
      by_cases P : sd = none ∧ e ≤ f.hi
      · refine ⟨0, .inl rfl, ?_, ?_, fun z => absurd rfl z, fo⟩
        · rcases U with ⟨_, np⟩ | ⟨k', j', eU, U1, _⟩
          · exact absurd P np
          · rw [eU]
            have cw' := wv_can hb2 s k' j'
            show PyData.int (cmpP _ _) = _
            rw [(cmpP_wo cw' cx).1 (by rw [ws, U1 P, wx])]
        · show PyData.int (cmpP _ _) = _
          rw [(cmpP_wo cx cw).1 (by rw [ws, L1 P, wx])]
      · refine ⟨-1, .inr rfl, ?_, ?_, fun _ => ⟨by rw [rL, rU, nx P]; omega, fun z => ?_⟩, fo⟩
        · rcases U with ⟨eU, np⟩ | ⟨k', j', eU, _, U2⟩
          · rw [eU, s0]
            rfl
          · rw [eU]
            have cw' := wv_can hb2 s k' j'
            have := U2 P
            show PyData.int (cmpP _ _) = _
            rw [(cmpP_wo cw' cx).2 (by rw [ws, wx]; grind)]
        · have := L2 P
          show PyData.int (cmpP _ _) = _
          rw [(cmpP_wo cx cw).2 (by rw [ws, wx]; grind)]
        · rcases U with ⟨eU, np⟩ | ⟨k', j', eU, _, U2⟩
          · rw [eU] at z
            have := Vl.inf.inj z
            omega
          · rw [eU] at z
            cases z
theorem step_up {f : Fm} (hf : FmOk f) {v : Vl} (hv : VlOk f v) (nv : notNan v) (hn : v ≠ .inf 0) : VlOk f (stepV f v 1) ∧ notNan (stepV f v 1) ∧ rkV f (stepV f v 1) = rkV f v + 1 := by
  cases v with
  | nan => exact nv.elim
  | num s c e =>
    obtain ⟨w, a, b, c', d⟩ := atW_num hf (k := 1) (.inl rfl) hv
    have hn : NumOk f s c e := hv
    obtain ⟨x, y, z⟩ := fix_ok hf hn.s b c'
    have e1 : stepV f (.num s c e) 1 = fixV s f.lo w := by simp only [stepV, atW_eq, a, sgV]
    rw [e1]
    exact ⟨x, y, z.trans d⟩
  | inf s =>
    have hs : ¬ s = if (1 : Int) < 0 then 1 else 0 := fun z => hn (by rw [z]; rfl)
    obtain ⟨w, a, b, c', d⟩ := atW_inf hf (k := 1) (.inl rfl) hv hs
    obtain ⟨x, y, z⟩ := fix_ok hf hv b c'
    have e1 : stepV f (.inf s) 1 = fixV s f.lo w := by simp only [stepV, atW_eq, a, sgV]
    rw [e1]
    exact ⟨x, y, z.trans d⟩
def Fm.fine (f : Fm) : Fm := ⟨f.b, f.p + 3, f.lo - 4, f.hi + 2⟩
theorem fmS_fine {f : Fm} (h : f ∈ fmS) : FmOk f.fine := fmOk_of (fm_of (c := fun f => fmB f.fine) (by decide +kernel) h)
end VI

/-! PL25: spans (k64). -/
namespace VI
open PySem
inductive Sp where
  | no
  | sp (lo hi : Vl)
def spD : Sp → D
  | .no => .tuple [.str "none"]
  | .sp a b => .tuple [.str "span", vlD a, vlD b]
theorem spn_eqv (xs : List D) : PyData.eqv (.tuple (.str "span" :: xs)) (.tuple [.str "none"]) = false := by
  have x1 : ("span" : Str) ≠ "none" := by decide
  simp [PyData.eqv, PyData.eqvAll, x1]
theorem non_eqv : PyData.eqv (.tuple [.str "none"]) (.tuple [.str "none"]) = true := by decide
def placeV : Vl → Vl
  | .num s c e => if c = 0 then .num 0 c e else .num s c e
  | v => v
structure EndOk (f : Fm) (v : Vl) : Prop where
  ok : VlOk f v
  nn : notNan v
  pl : placeV v = v
structure SpOk (f : Fm) (x y : Vl) : Prop where
  a : EndOk f x
  b : EndOk f y
  na : x ≠ Vl.inf 0
  nb : y ≠ Vl.inf 1
def SpanOk (f : Fm) : Sp → Prop
  | .no => True
  | .sp a b => SpOk f a b
theorem place_end {f : Fm} (hf : FmOk f) {v : Vl} (h : VlOk f v) (n : notNan v) : EndOk f (placeV v) := by
  cases v with
  | nan => exact n.elim
  | inf s => exact ⟨h, n, rfl⟩
  | num s c e =>
    have hn : NumOk f s c e := h
    show EndOk f (if c = 0 then .num 0 c e else .num s c e)
    split
    · rename_i z
      refine ⟨show NumOk f 0 c e from ⟨.inl rfl, hn.e1, hn.e2, hn.c0, hn.c1, hn.c2⟩, trivial, ?_⟩
      show (if c = 0 then Vl.num 0 c e else .num 0 c e) = _
      rw [if_pos z]
    · rename_i z
      refine ⟨h, trivial, ?_⟩
      show (if c = 0 then Vl.num 0 c e else .num s c e) = _
      rw [if_neg z]
theorem zero_lo {f : Fm} (hf : FmOk f) {s e : Int} (h : NumOk f s 0 e) : e = f.lo := by
  rcases h.c2 with q | q
  · exact q
  · have q : f.F ≤ 0 := q
    have := hf.F_pos
    omega
def ltB (f : Fm) (x y : Vl) : Bool := decide (rkV f x < rkV f y)
/-- ends of one rank are one -/
theorem end_inj {f : Fm} (hf : FmOk f) {x y : Vl} (hx : EndOk f x) (hy : EndOk f y) (h : rkV f x = rkV f y) : x = y := by
  have F0 := hf.F_pos
  have TF := hf.TF
  have W0 := hf.W_pos
  have XF := hf.XF
  have nx := hx.nn
  have ny := hy.nn
  cases x with
  | nan => exact nx.elim
  | inf s =>
    have hs : s = 0 ∨ s = 1 := hx.ok
    cases y with
    | nan => exact ny.elim
    | inf t =>
      have ht : t = 0 ∨ t = 1 := hy.ok
      have h : (if s = 1 then -f.X else f.X) = (if t = 1 then -f.X else f.X) := h
      rcases hs with rfl | rfl <;> rcases ht with rfl | rfl <;> first | rfl | (simp at h; omega)
    | num t c e =>
      have l := rk_lt hf (show NumOk f t c e from hy.ok)
      rw [← h] at l
      have l : -f.X < (if s = 1 then -f.X else f.X) ∧ (if s = 1 then -f.X else f.X) < f.X := l
      split at l <;> omega
  | num s c e =>
    cases y with
    | nan => exact ny.elim
    | inf t =>
      have l := rk_lt hf (show NumOk f s c e from hx.ok)
      rw [h] at l
      have l : -f.X < (if t = 1 then -f.X else f.X) ∧ (if t = 1 then -f.X else f.X) < f.X := l
      split at l <;> omega
    | num t c' e' =>
      have a : NumOk f s c e := hx.ok
      have b : NumOk f t c' e' := hy.ok
      rw [rk_num a.s, rk_num b.s] at h
      have m1 := M_nn hf a
      have m2 := M_nn hf b
      have i1 := M_lt hf a b
      have i2 := M_lt hf b a
      have px : (if c = 0 then Vl.num 0 c e else .num s c e) = .num s c e := hx.pl
      have py : (if c' = 0 then Vl.num 0 c' e' else .num t c' e') = .num t c' e' := hy.pl
      have ce : f.M c e = f.M c' e' → c = c' ∧ e = e' := fun q => by
        rcases Int.lt_trichotomy e e' with z | z | z
        · have := i1.1 z
          omega
        · rcases Int.lt_trichotomy c c' with y | y | y
          · have := (i1.2 z).mpr y
            omega
          · exact ⟨y, z⟩
          · have := (i2.2 z.symm).mpr y
            omega
        · have := i2.1 z
          omega
      have c0 : f.M c e = 0 → c = 0 := fun q => by
        have := a.c0
        have := Int.mul_nonneg (show 0 ≤ e - f.lo by have := a.e1; omega) (show 0 ≤ f.W by omega)
        unfold Fm.M at q
        omega
      have eM : f.M c e = f.M c' e' := by
        unfold sg at h
        split at h <;> split at h <;> omega
      obtain ⟨rfl, rfl⟩ := ce eM
      by_cases z : c = 0
      · rw [if_pos z] at px py
        rw [← px, ← py]
      · have : f.M c e ≠ 0 := fun q => z (c0 q)
        have : s = t := by
          rcases a.s with rfl | rfl <;> rcases b.s with rfl | rfl <;> first | rfl | (unfold sg at h; simp at h; omega)
        rw [this]
def hullS (f : Fm) : Sp → Sp → Sp
  | .no, b => b
  | a, .no => a
  | .sp a b, .sp c d => .sp (if ltB f a c = true then a else c) (if ltB f b d = true then d else b)
def meetS (f : Fm) : Sp → Sp → Sp
  | .no, _ => .no
  | _, .no => .no
  | .sp a b, .sp c d => if ltB f (if ltB f b d = true then b else d) (if ltB f a c = true then c else a) = true then .no else .sp (if ltB f a c = true then c else a) (if ltB f b d = true then b else d)
def liesS (f : Fm) : Sp → Sp → Bool
  | .no, _ => true
  | _, .no => false
  | .sp a b, .sp c d => !(ltB f a c) && !(ltB f d b)
def sideS (f : Fm) : Sp → Sp → Str
  | .no, _ => "none"
  | _, .no => "none"
  | .sp a b, .sp c d => if ltB f b c = true then "less" else if ltB f a d = true then "open" else "not"
def widthS (f : Fm) : Sp → D
  | .no => .tuple [.int 0, .int 1]
  | .sp (.num s c e) (.num t c' e') => dF (subP (wv f.b t c' e') (wv f.b s c e))
  | _ => .none
def lowB (f : Fm) (x : P2) : Vl → Bool
  | .num s c e => !decide (x.1 * (wv f.b s c e).2 < (wv f.b s c e).1 * x.2)
  | _ => true
def highB (f : Fm) (x : P2) : Vl → Bool
  | .num s c e => !decide ((wv f.b s c e).1 * x.2 < x.1 * (wv f.b s c e).2)
  | _ => true
def holdsS (f : Fm) (x : P2) : Sp → Bool
  | .no => false
  | .sp a b => lowB f x a && highB f x b
theorem tie {f : Fm} (hf : FmOk f) {x y : Vl} (hx : EndOk f x) (hy : EndOk f y) : (if ltB f x y = true then x else y) = (if ltB f y x = true then y else x) := by
  unfold ltB
  simp only [decide_eq_true_eq]
  by_cases a : rkV f x < rkV f y
  · rw [if_pos a, if_neg (by omega)]
  · by_cases b : rkV f y < rkV f x
    · rw [if_neg a, if_pos b]
    · rw [if_neg a, if_neg b]
      exact (end_inj hf hx hy (by omega)).symm
theorem tie2 {f : Fm} (hf : FmOk f) {x y : Vl} (hx : EndOk f x) (hy : EndOk f y) : (if ltB f x y = true then y else x) = (if ltB f y x = true then x else y) := by
  unfold ltB
  simp only [decide_eq_true_eq]
  by_cases a : rkV f x < rkV f y
  · rw [if_pos a, if_neg (by omega)]
  · by_cases b : rkV f y < rkV f x
    · rw [if_neg a, if_pos b]
    · rw [if_neg a, if_neg b]
      exact end_inj hf hx hy (by omega)
/-! ### ends told as fractions -/
inductive Ew where
  | inf (s : Int)
  | fr (x : P2)
def ewD : Ew → D
  | .inf s => if s = 0 then .tuple [.int 1, .int 0] else .tuple [.int (-1), .int 0]
  | .fr x => dF x
def endE (f : Fm) : Vl → Ew
  | .num s c e => .fr (wv f.b s c e)
  | .inf s => .inf s
  | .nan => .inf 0
def EndTo (o : Fm) (way : Str) (z : Int) : Ew → Vl → Prop
  | .inf _, w => w = .inf z
  | .fr x, w => ∃ w0 G, RoundTo o way x 0 w0 G ∧ w = placeV w0
theorem endTo_uniq {o : Fm} (ho : FmOk o) {way : Str} {z : Int} {e : Ew} {w w' : Vl} (h : EndTo o way z e w) (h' : EndTo o way z e w') : w = w' := by
  cases e with
  | inf s => exact Eq.trans h (Eq.symm h')
  | fr x =>
    obtain ⟨w0, G, a, rfl⟩ := h
    obtain ⟨w1, G1, a1, rfl⟩ := h'
    rw [(round_uniq ho a a1).1]
theorem wv_two {f : Fm} (hf : FmOk f) {s c e : Int} (h : NumOk f s c e) : Bd 2400 (wv f.b s c e).2 := by
  have fe := hf.raP h.e1 h.e2
  have m : Bd 2400 (mulP (c, 1) (powP f.b e)).2 := Bd.nrm2 (by rw [Int.one_mul]; exact fe.b2)
  unfold wv
  split
  · exact m
  · exact m
theorem top_two {f : Fm} (hf : FmOk f) : Bd 2400 (topP f).2 := by
  have fe := hf.raP hf.lh (Int.le_refl _)
  exact Bd.nrm2 (by rw [Int.one_mul]; exact fe.b2)
theorem fit_sp {f : Fm} (hf : FmOk f) {s : Sp} (h : SpanOk f s) : Fit 3 60000 (spD s) := by
  cases s with
  | no => exact Fit.up (k := 1) (w := 200) (by constructor <;> decide +kernel) (by decide) (by decide)
  | sp a b =>
    have hs : Fit 2 18000 (.str "span") := Fit.up (k := 0) (w := 200) (by constructor <;> decide +kernel) (by decide) (by decide)
    exact (Fit.tup (k := 2) (w := 18000) (all_cons hs (all_cons (fit_vl hf h.a.ok) (all_cons (fit_vl hf h.b.ok) all_nil)))).up (by decide) (by simp)
theorem cmpP_ge (x y : P2) : decide (0 ≤ cmpP x y) = !decide (x.1 * y.2 < y.1 * x.2) := by
  unfold cmpP cmpI
  by_cases a : x.1 * y.2 < y.1 * x.2
  · rw [if_neg (show ¬ y.1 * x.2 < x.1 * y.2 by omega), if_pos a]
    simp [a]
  · rw [if_neg a]
    by_cases b : y.1 * x.2 < x.1 * y.2
    · rw [if_pos b]
      simp [a]
    · rw [if_neg b]
      simp [a]
theorem cmpP_le (x y : P2) : decide (cmpP x y ≤ 0) = !decide (y.1 * x.2 < x.1 * y.2) := by
  unfold cmpP cmpI
  by_cases a : x.1 * y.2 < y.1 * x.2
  · rw [if_neg (show ¬ y.1 * x.2 < x.1 * y.2 by omega), if_pos a]
    simp; omega
  · rw [if_neg a]
    by_cases b : y.1 * x.2 < x.1 * y.2
    · rw [if_pos b]
      simp [b]
    · rw [if_neg b]
      simp; omega
theorem spD_no : PyData.eqv (spD .no) (.tuple [.str "none"]) = true := non_eqv
theorem spD_sp (a b : Vl) : PyData.eqv (spD (.sp a b)) (.tuple [.str "none"]) = false := spn_eqv _
def IntoTo (f o : Fm) : Sp → Sp → Prop
  | .no, r => r = .no
  | .sp a b, r => ∃ w1 w2, r = .sp w1 w2 ∧ EndTo o "down" 1 (endE f a) w1 ∧ EndTo o "up" 0 (endE f b) w2
def LeastTo (o : Fm) : Option (Ew × Ew) → Sp → Prop
  | none, r => r = .no
  | some e, r => ∃ w1 w2, r = .sp w1 w2 ∧ EndTo o "down" 1 e.1 w1 ∧ EndTo o "up" 0 e.2 w2
def ewsD : Option (Ew × Ew) → D
  | none => .none
  | some e => .tuple [ewD e.1, ewD e.2]
def EwOk (K : Nat) : Ew → Prop
  | .inf s => s = 0 ∨ s = 1
  | .fr x => Fra K x
def endsE (f : Fm) : Sp → Option (Ew × Ew)
  | .no => none
  | .sp a b => some (endE f a, endE f b)
theorem into_least {f o : Fm} {s r : Sp} (h : IntoTo f o s r) : LeastTo o (endsE f s) r := by
  cases s with
  | no => exact h
  | sp a b => exact h
theorem least_uniq {o : Fm} (ho : FmOk o) {e : Option (Ew × Ew)} {r r' : Sp} (h : LeastTo o e r) (h' : LeastTo o e r') : r = r' := by
  cases e with
  | none => exact Eq.trans h (Eq.symm h')
  | some e =>
    obtain ⟨w1, w2, rfl, a, b⟩ := h
    obtain ⟨w3, w4, rfl, a', b'⟩ := h'
    rw [endTo_uniq ho a a', endTo_uniq ho b b']
end VI

/-! PL26: roots (k26). -/
namespace VI
open PySem
theorem sqB {b : Int} (hb : 2 ≤ b) : 2 ≤ b * b := by
  have := Int.mul_le_mul_of_nonneg_left hb (show 0 ≤ b by omega)
  omega
theorem bp_zero {b : Int} (hb : 2 ≤ b) : bp b 0 = 1 := by
  unfold bp powP
  rw [if_pos (Int.le_refl 0)]
  show wo (b ^ 0, 1) = 1
  rw [Int.pow_zero, wo_int]
  rfl
theorem pow_sq (b : Int) (n : Nat) : (b * b) ^ n = b ^ n * b ^ n := by rw [Int.mul_pow]
theorem pow_two_mul (b : Int) (n : Nat) : b ^ (2 * n) = b ^ n * b ^ n := by rw [Nat.two_mul, Int.pow_add]
/-- the square of a power -/
theorem bp_sq {b : Int} (hb : 2 ≤ b) (e : Int) : bp (b * b) e = bp b e * bp b e := by
  have nat : ∀ n : Nat, bp (b * b) n = bp b n * bp b n := fun n => by
    have h1 := bp_up (sqB hb) 0 n
    have h2 := bp_up hb 0 n
    rw [Int.zero_add, bp_zero (sqB hb)] at h1
    rw [Int.zero_add, bp_zero hb] at h2
    rw [h1, h2, pow_sq]
    push_cast
    grind
  by_cases h : 0 ≤ e
  · have := nat e.toNat
    rw [show ((e.toNat : Nat) : Int) = e by omega] at this
    exact this
  · have h1 := bp_add (sqB hb) e (-e)
    have h2 := bp_add hb e (-e)
    rw [show e + -e = 0 by omega, bp_zero (sqB hb)] at h1
    rw [show e + -e = 0 by omega, bp_zero hb] at h2
    have := nat (-e).toNat
    rw [show (((-e).toNat : Nat) : Int) = -e by omega] at this
    rw [this] at h1
    have p1 := bp_pos hb (-e)
    have n1 : bp b (-e) ≠ 0 := by grind
    grind
theorem bp_two {b : Int} (hb : 2 ≤ b) (e : Int) : bp b (2 * e) = bp (b * b) e := by
  rw [show 2 * e = e + e by omega, bp_add hb, bp_sq hb]
def RSide (b : Int) (x : P2) (c e : Int) : Option Int → Prop
  | none => ((c * c : Int) : Rat) * bp (b * b) e = wo x
  | some z => ((c * c : Int) : Rat) * bp (b * b) e < wo x ∧ ((z = 1 ∧ (((2 * c + 1) * (2 * c + 1) : Int) : Rat) * bp (b * b) e < 4 * wo x) ∨ (z = 0 ∧ (((2 * c + 1) * (2 * c + 1) : Int) : Rat) * bp (b * b) e = 4 * wo x) ∨ (z = -1 ∧ 4 * wo x < (((2 * c + 1) * (2 * c + 1) : Int) : Rat) * bp (b * b) e))
/-- c, e, side of the root of a fraction -/
structure RootAt (f : Fm) (x : P2) (c e : Int) (sd : Option Int) : Prop where
  e0 : f.lo ≤ e
  e1 : e ≤ 9700
  c0 : 0 ≤ c
  c1 : c < f.T
  cF : e = f.lo ∨ f.F ≤ c
  le : ((c * c : Int) : Rat) * bp (f.b * f.b) e ≤ wo x
  lt : wo x < (((c + 1) * (c + 1) : Int) : Rat) * bp (f.b * f.b) e
  sd : RSide f.b x c e sd
theorem sq_lt {a b : Int} (ha : 0 ≤ a) (hb : 0 ≤ b) : a * a < b * b ↔ a < b := by
  refine ⟨fun h => ?_, fun h => ?_⟩
  · refine Int.not_le.mp fun z => ?_
    have h1 := Int.mul_le_mul_of_nonneg_left z hb
    have h2 := Int.mul_le_mul_of_nonneg_right z ha
    omega
  · have h1 := Int.mul_le_mul_of_nonneg_left (show a ≤ b by omega) ha
    have h2 := Int.mul_lt_mul_of_pos_right h (show 0 < b by omega)
    omega
theorem root_uniq {f : Fm} (hf : FmOk f) {x : P2} {c e c' e' : Int} {sd sd' : Option Int} (h : RootAt f x c e sd) (h' : RootAt f x c' e' sd') : c = c' ∧ e = e' ∧ sd = sd' := by
  have hb := hf.b2
  have noLess : ∀ {c e c' e' : Int} {sd sd' : Option Int}, RootAt f x c e sd → RootAt f x c' e' sd' → ¬ e' < e := fun {c e c' e' sd sd'} h h' z => by
    have hF : f.F ≤ c := by
      rcases h.cF with q | q
      · have := h'.e0
        omega
      · exact q
    have l := low_lt hf z hF (c' := c') (by have := h'.c1; omega)
    have p0 := bp_pos hb e'
    have k0 : (0 : Rat) ≤ ((c' + 1 : Int) : Rat) * bp f.b e' := by
      have := mul_le_bp hb (show 0 ≤ c' + 1 by have := h'.c0; omega) e'
      have z0 : ((0 : Int) : Rat) * bp f.b e' = 0 := by simp
      rw [z0] at this
      exact this
    have lt := h'.lt
    have le := h.le
    rw [bp_sq hb] at lt le
    have e1 : (((c' + 1) * (c' + 1) : Int) : Rat) * (bp f.b e' * bp f.b e') = (((c' + 1 : Int) : Rat) * bp f.b e') * (((c' + 1 : Int) : Rat) * bp f.b e') := by push_cast; grind
    have e2 : ((c * c : Int) : Rat) * (bp f.b e * bp f.b e) = ((c : Rat) * bp f.b e) * ((c : Rat) * bp f.b e) := by push_cast; grind
    rw [e1] at lt
    rw [e2] at le
    generalize ((c' + 1 : Int) : Rat) * bp f.b e' = a at *
    generalize (c : Rat) * bp f.b e = d at *
    have a1 : a * a ≤ a * d := Rat.mul_le_mul_of_nonneg_left l k0
    have a2 : a * d ≤ d * d := Rat.mul_le_mul_of_nonneg_right l (Rat.le_trans k0 l)
    exact absurd (Std.lt_of_lt_of_le lt (Rat.le_trans a1 (Rat.le_trans a2 le))) Rat.lt_irrefl
  have ee : e = e' := by
    have := noLess h h'
    have := noLess h' h
    omega
  subst ee
  have hB := sqB hb
  have c0 := h.c0
  have c0' := h'.c0
  have q1 := bp_lt hB h.le h'.lt
  have q2 := bp_lt hB h'.le h.lt
  have q1 := (sq_lt c0 (show 0 ≤ c' + 1 by omega)).mp q1
  have q2 := (sq_lt c0' (show 0 ≤ c + 1 by omega)).mp q2
  have cc : c = c' := by omega
  subst cc
  refine ⟨rfl, rfl, ?_⟩
  have s1 := h.sd
  have s2 := h'.sd
  cases sd with
  | none =>
    cases sd' with
    | none => rfl
    | some z =>
      have s1 : ((c * c : Int) : Rat) * bp (f.b * f.b) e = wo x := s1
      have := s2.1
      rw [s1] at this
      exact absurd this Rat.lt_irrefl
  | some z =>
    cases sd' with
    | none =>
      have s2 : ((c * c : Int) : Rat) * bp (f.b * f.b) e = wo x := s2
      have := s1.1
      rw [s2] at this
      exact absurd this Rat.lt_irrefl
    | some z' =>
      congr 1
      rcases s1.2 with ⟨rfl, a⟩ | ⟨rfl, a⟩ | ⟨rfl, a⟩ <;> rcases s2.2 with ⟨rfl, a'⟩ | ⟨rfl, a'⟩ | ⟨rfl, a'⟩ <;> first | rfl | (exfalso; grind)
/-- the exponent by comparisons -/
theorem root_e {f : Fm} (hf : FmOk f) {x : P2} {e q c : Int} (h0 : f.lo ≤ e) (h1 : wo x < bp (f.b * f.b) (f.p + e)) (h2 : e = f.lo ∨ bp (f.b * f.b) (f.p + e - 1) ≤ wo x) (c0 : 0 ≤ c)
    (le : ((c * c : Int) : Rat) * bp (f.b * f.b) e ≤ wo x) (lt : wo x < (((c + 1) * (c + 1) : Int) : Rat) * bp (f.b * f.b) e) : c < f.T ∧ (e = f.lo ∨ f.F ≤ c) := by
  have hb := hf.b2
  have hB := sqB hb
  have p2 := hf.p2
  have T0 : 0 ≤ f.T := by have := hf.TF; have := hf.F_pos; have := hf.W_pos; omega
  have F0 := hf.F_pos
  have eT : bp (f.b * f.b) (f.p + e) = ((f.T * f.T : Int) : Rat) * bp (f.b * f.b) e := by
    have := bp_up hB e f.p.toNat
    rw [show e + (f.p.toNat : Int) = f.p + e by omega, pow_sq] at this
    exact this
  have eF : bp (f.b * f.b) (f.p + e - 1) = ((f.F * f.F : Int) : Rat) * bp (f.b * f.b) e := by
    have := bp_up hB e (f.p - 1).toNat
    rw [show e + ((f.p - 1).toNat : Int) = f.p + e - 1 by omega, pow_sq] at this
    exact this
  refine ⟨?_, ?_⟩
  · rw [eT] at h1
    exact (sq_lt c0 T0).mp (bp_lt hB le h1)
  · rcases h2 with q | q
    · exact .inl q
    · right
      rw [eF] at q
      have := (sq_lt (show 0 ≤ f.F by omega) (show 0 ≤ c + 1 by omega)).mp (bp_lt hB q lt)
      omega
theorem newton {n g q l : Int} (hg : 1 ≤ g) (hn : 1 ≤ n) (hq : g * q ≤ n) (hq2 : n < g * (q + 1)) (q0 : 0 ≤ q) (hl : l = (g + q) / 2) : n < (l + 1) * (l + 1) ∧ 1 ≤ l ∧ (g ≤ l → g * g ≤ n) := by
  have e1 : g + q + 1 ≤ 2 * (l + 1) := by omega
  have g0 : 0 ≤ g + q + 1 := by omega
  have m1 := Int.mul_le_mul_of_nonneg_left e1 g0
  have m2 := Int.mul_le_mul_of_nonneg_right e1 (show 0 ≤ 2 * (l + 1) by omega)
  have d0 : 0 ≤ (g - (q + 1)) * (g - (q + 1)) := by
    by_cases z : 0 ≤ g - (q + 1)
    · exact Int.mul_nonneg z z
    · have := Int.mul_pos_of_neg_of_neg (show g - (q + 1) < 0 by omega) (show g - (q + 1) < 0 by omega)
      omega
  have e2 : (g + q + 1) * (g + q + 1) = (g - (q + 1)) * (g - (q + 1)) + 4 * (g * (q + 1)) := by grind
  have e3 : (2 * (l + 1)) * (2 * (l + 1)) = 4 * ((l + 1) * (l + 1)) := by grind
  have e4 : (g + q + 1) * (2 * (l + 1)) = 2 * (l + 1) * (g + q + 1) := Int.mul_comm _ _
  refine ⟨by omega, ?_, fun h => ?_⟩
  · by_cases z : g = 1
    · subst z
      omega
    · omega
  · have : g ≤ q := by omega
    have := Int.mul_le_mul_of_nonneg_left this (show 0 ≤ g by omega)
    omega
theorem wo_four {n d : Int} : wo (4 * n, d) = 4 * wo (n, d) := by
  have a := wo_two (n := 2 * n) (d := d)
  have b := wo_two (n := n) (d := d)
  rw [show 4 * n = 2 * (2 * n) by omega, a, b]
  grind
theorem root_of {b : Int} (hb : 2 ≤ b) {n d e c q : Int} (hd : 0 < d) (hq : (n * (b * b) ^ (max 0 (-e)).toNat).fdiv (d * (b * b) ^ (max 0 e).toNat) = q) (h1 : c * c ≤ q) (h2 : q < (c + 1) * (c + 1)) :
    ((c * c : Int) : Rat) * bp (b * b) e ≤ wo (n, d) ∧ wo (n, d) < (((c + 1) * (c + 1) : Int) : Rat) * bp (b * b) e := by
  have hB := sqB hb
  have hD : 0 < d * (b * b) ^ (max 0 e).toNat := Int.mul_pos hd (powI_pos hB _)
  obtain ⟨q', r, a, b', r0, r1⟩ := fdiv_parts (n := n * (b * b) ^ (max 0 (-e)).toNat) hD
  have : q' = q := a.symm.trans hq
  subst this
  refine ⟨(wo_ge hB hd (c * c) e).mpr ?_, (wo_gt hB hd ((c + 1) * (c + 1)) e).mpr ?_⟩
  · have := Int.mul_le_mul_of_nonneg_right h1 (show 0 ≤ d * (b * b) ^ (max 0 e).toNat by omega)
    omega
  · have := Int.mul_le_mul_of_nonneg_right (show q' + 1 ≤ (c + 1) * (c + 1) by omega) (show 0 ≤ d * (b * b) ^ (max 0 e).toNat by omega)
    rw [Int.add_mul, Int.one_mul] at this
    omega
theorem root_side {b : Int} (hb : 2 ≤ b) {n d c e : Int} (hd : 0 < d) (hle : ((c * c : Int) : Rat) * bp (b * b) e ≤ wo (n, d)) :
    (c * c * (d * (b * b) ^ (max 0 e).toNat) = n * (b * b) ^ (max 0 (-e)).toNat → RSide b (n, d) c e none) ∧
    (c * c * (d * (b * b) ^ (max 0 e).toNat) ≠ n * (b * b) ^ (max 0 (-e)).toNat → ∀ r, r = 4 * (n * (b * b) ^ (max 0 (-e)).toNat) - (2 * c + 1) * (2 * c + 1) * (d * (b * b) ^ (max 0 e).toNat) →
      RSide b (n, d) c e (some ((if 0 < r then 1 else 0) - (if r < 0 then 1 else 0)))) := by
  have hB := sqB hb
  have hi := wo_eq_iff hB (n := n) hd (c * c) e
  refine ⟨fun h => hi.mpr h, fun h r hr => ?_⟩
  have hne : ¬ ((c * c : Int) : Rat) * bp (b * b) e = wo (n, d) := fun z => h (hi.mp z)
  have hlt : ((c * c : Int) : Rat) * bp (b * b) e < wo (n, d) := by
    rw [← Rat.not_le]
    intro z
    exact hne (Rat.le_antisymm hle z)
  refine ⟨hlt, ?_⟩
  rw [← wo_four]
  have a := wo_ge hB (n := 4 * n) hd ((2 * c + 1) * (2 * c + 1)) e
  have b1 := wo_gt hB (n := 4 * n) hd ((2 * c + 1) * (2 * c + 1)) e
  have c1 := wo_eq_iff hB (n := 4 * n) hd ((2 * c + 1) * (2 * c + 1)) e
  generalize d * (b * b) ^ (max 0 e).toNat = P at *
  rw [Int.mul_assoc 4 n] at a b1 c1
  generalize n * (b * b) ^ (max 0 (-e)).toNat = M at *
  generalize (2 * c + 1) * (2 * c + 1) = K at *
  rcases Int.lt_trichotomy r 0 with z | z | z
  · right
    right
    refine ⟨by rw [if_neg (by omega), if_pos z]; omega, b1.mpr (by omega)⟩
  · right
    left
    refine ⟨by rw [if_neg (by omega), if_neg (by omega)]; omega, c1.mpr (by omega)⟩
  · left
    refine ⟨by rw [if_pos z, if_neg (by omega)]; omega, ?_⟩
    rw [← Rat.not_le]
    intro y
    have := c1.mp (Rat.le_antisymm (a.mpr (by omega)) y)
    omega
/-- the zero's root -/
theorem root_zero {f : Fm} (hf : FmOk f) {d : Int} : RootAt f (0, d) 0 f.lo none := by
  have w0 : wo (0, d) = 0 := by
    unfold wo
    show ((0 : Int) : Rat) / _ = 0
    rw [Rat.div_def]
    simp
  have p0 := bp_pos (sqB hf.b2) f.lo
  have hi := hf.h
  have lh := hf.lh
  have TF := hf.TF
  have F0 := hf.F_pos
  have W0 := hf.W_pos
  refine ⟨Int.le_refl _, by omega, Int.le_refl _, by omega, .inl rfl, ?_, ?_, ?_⟩
  · rw [w0]
    simp
  · rw [w0]
    simp
    exact p0
  · show ((0 * 0 : Int) : Rat) * bp (f.b * f.b) f.lo = _
    rw [w0]
    simp
theorem fin_nrm {f : Fm} (hf : FmOk f) {way : Str} {s c e : Int} {sd : Option Int} (hs : s = 0 ∨ s = 1) (e0 : f.lo ≤ e) (c0 : 0 ≤ c) (c1 : c < f.T) (cF : e = f.lo ∨ f.F ≤ c) : VlOk f (finV f way s c e sd) := by
  have TF := hf.TF
  have F0 := hf.F_pos
  have W0 := hf.W_pos
  unfold finV
  by_cases h : f.hi < (upC f way s c e sd).2
  · rw [if_pos h]
    split
    · exact hs
    · exact (top_ok hf).sign hs
  · rw [if_neg h]
    show NumOk f s (upC f way s c e sd).1 (upC f way s c e sd).2
    revert h
    unfold upC uN
    split
    · split
      · intro h
        exact ⟨hs, by show f.lo ≤ e + 1; omega, by have h : ¬ f.hi < e + 1 := h; show e + 1 ≤ f.hi; omega, by show 0 ≤ f.F; omega, by show f.F < f.T; omega, .inr (Int.le_refl f.F)⟩
      · intro h
        refine ⟨hs, e0, by have h : ¬ f.hi < e := h; show e ≤ f.hi; omega, by show 0 ≤ c + 1; omega, by show c + 1 < f.T; omega, ?_⟩
        rcases cF with q | q
        · exact .inl q
        · exact .inr (by show f.F ≤ c + 1; omega)
    · intro h
      exact ⟨hs, e0, by have h : ¬ f.hi < e := h; show e ≤ f.hi; omega, c0, c1, cF⟩
theorem RootAt.fin {f : Fm} (hf : FmOk f) {x : P2} {c e : Int} {sd : Option Int} (h : RootAt f x c e sd) (way : Str) : VlOk f (finV f way 0 c e sd) := fin_nrm hf (.inl rfl) h.e0 h.c0 h.c1 h.cF
theorem finD_zero {f : Fm} (hf : FmOk f) (way : Str) : finD f way 0 0 f.lo none = .tuple [vlD (.num 0 0 f.lo), .tuple []] := by
  have lh := hf.lh
  have u : upC f way 0 0 f.lo none = (0, f.lo) := rfl
  have v : finV f way 0 0 f.lo none = .num 0 0 f.lo := by
    unfold finV
    rw [u, if_neg (show ¬ f.hi < f.lo by omega)]
  have w : finG f way 0 0 f.lo none = [] := by
    unfold finG
    rw [u, if_neg (show ¬ f.hi < f.lo by omega)]
    rfl
  unfold finD
  rw [v, w]
  rfl
def RtTo (f : Fm) (way : Str) : Vl → Vl → List Str → Prop
  | .nan => Out0 .nan []
  | .inf s => if s = 1 then Out0 .nan ["invalid"] else Out0 (.inf s) []
  | .num s c e => if c = 0 then Out0 (.num s c e) [] else if s = 1 then Out0 .nan ["invalid"] else fun w G => ∃ c' e' sd, RootAt f (wv f.b s c e) c' e' sd ∧ w = finV f way 0 c' e' sd ∧ G = finG f way 0 c' e' sd
theorem one_rt {f : Fm} (hf : FmOk f) {way : Str} {x : Vl} (hx : VlOk f x) : OneOut f (RtTo f way x) := by
  have n0 : OneOut f (Out0 .nan []) := one_out0 (show VlOk f .nan from trivial) (by simp [flags6, flags4])
  have n1 : OneOut f (Out0 .nan ["invalid"]) := one_out0 (show VlOk f .nan from trivial) (by simp [flags6, flags4])
  cases x with
  | nan => exact n0
  | inf s =>
    show OneOut f (if s = 1 then Out0 .nan ["invalid"] else Out0 (.inf s) [])
    split
    · exact n1
    · exact one_out0 hx (by simp [flags6, flags4])
  | num s c e =>
    show OneOut f (if c = 0 then Out0 (.num s c e) [] else if s = 1 then Out0 .nan ["invalid"] else fun w G => ∃ c' e' sd, RootAt f (wv f.b s c e) c' e' sd ∧ w = finV f way 0 c' e' sd ∧ G = finG f way 0 c' e' sd)
    split
    · exact one_out0 hx (by simp [flags6, flags4])
    · split
      · exact n1
      · refine ⟨?_, ?_, ?_⟩
        · rintro w G w' G' ⟨c1, e1, s1, h, rfl, rfl⟩ ⟨c2, e2, s2, h', rfl, rfl⟩
          obtain ⟨rfl, rfl, rfl⟩ := root_uniq hf h h'
          exact ⟨rfl, rfl⟩
        · rintro w G ⟨c1, e1, s1, h, rfl, rfl⟩
          exact h.fin hf way
        · rintro w G ⟨c1, e1, s1, h, rfl, rfl⟩
          exact List.mem_cons_of_mem _ (List.mem_cons_of_mem _ (finG_mem ..))
theorem wo_mul_iff {p q : P2} (hp : 0 < p.2) (hq : 0 < q.2) : (p.1 * q.2 < q.1 * p.2 ↔ wo p < wo q) ∧ (p.1 * q.2 = q.1 * p.2 ↔ wo p = wo q) := by
  have a : (0 : Rat) < p.2 := by exact_mod_cast hp
  have b : (0 : Rat) < q.2 := by exact_mod_cast hq
  have na : (p.2 : Rat) ≠ 0 := by grind
  have nb : (q.2 : Rat) ≠ 0 := by grind
  have e : wo q * (p.2 : Rat) = ((q.1 : Rat) * p.2) / q.2 := by
    unfold wo
    rw [Rat.div_def, Rat.div_def]
    grind
  refine ⟨?_, ?_⟩
  · show _ ↔ (p.1 : Rat) / p.2 < wo q
    rw [Rat.div_lt_iff a, e, Rat.lt_div_iff b]
    constructor
    · intro h
      exact_mod_cast h
    · intro h
      exact_mod_cast h
  · constructor
    · intro h
      have h' : (p.1 : Rat) * q.2 = (q.1 : Rat) * p.2 := by exact_mod_cast h
      unfold wo
      rw [Rat.div_def, Rat.div_def]
      grind
    · intro h
      unfold wo at h
      rw [Rat.div_def, Rat.div_def] at h
      have h' : (p.1 : Rat) * q.2 = (q.1 : Rat) * p.2 := by grind
      exact_mod_cast h'
theorem wo_scale {u : P2} (k m : Int) (hm : 0 < m) : (m : Rat) * wo (k * u.1, m * u.2) = (k : Rat) * wo u := by
  have hm' : (m : Rat) ≠ 0 := rat_ne (by omega)
  unfold wo
  show (m : Rat) * (((k * u.1 : Int) : Rat) / ((m * u.2 : Int) : Rat)) = _
  rw [Rat.div_def, Rat.div_def, Rat.intCast_mul, Rat.intCast_mul, Rat.inv_mul_rev]
  grind
structure RootF (f : Fm) (x : P2) (c e : Int) (sd : Option Int) : Prop where
  ex : c * c * (powP f.b (2 * e)).1 * x.2 = x.1 * (powP f.b (2 * e)).2 ↔ sd = none
  lo : ∀ z, sd = some z → (x.1 * (4 * (powP f.b (2 * e)).2) < (2 * c + 1) * (2 * c + 1) * (powP f.b (2 * e)).1 * x.2 ↔ z = -1)
  hi : ∀ z, sd = some z → ((2 * c + 1) * (2 * c + 1) * (powP f.b (2 * e)).1 * x.2 < x.1 * (4 * (powP f.b (2 * e)).2) ↔ z = 1)
  zz : ∀ z, sd = some z → z = 1 ∨ z = 0 ∨ z = -1
  ti : x.1 * (powP f.b (2 * (f.lo + f.p - 1))).2 < (powP f.b (2 * (f.lo + f.p - 1))).1 * x.2 ↔ c < f.F
theorem root_f {f : Fm} (hf : FmOk f) {x : P2} (hx : 0 < x.2) {c e : Int} {sd : Option Int} (r : RootAt f x c e sd) : RootF f x c e sd := by
  have hb := hf.b2
  have hB := sqB hb
  have cu := powP_can hb (2 * e)
  have wu : wo (powP f.b (2 * e)) = bp (f.b * f.b) e := bp_two hb e
  have up := cu.pos
  have s0 := r.sd
  have le := r.le
  have lt := r.lt
  have A := wo_mul_iff (p := (c * c * (powP f.b (2 * e)).1, (powP f.b (2 * e)).2)) (q := x) up hx
  have wA : wo (c * c * (powP f.b (2 * e)).1, (powP f.b (2 * e)).2) = ((c * c : Int) : Rat) * bp (f.b * f.b) e := by
    have := wo_scale (u := powP f.b (2 * e)) (c * c) 1 (by decide)
    rw [Int.one_mul, wu] at this
    rw [← this]
    simp
  have B1 := wo_mul_iff (p := x) (q := ((2 * c + 1) * (2 * c + 1) * (powP f.b (2 * e)).1, 4 * (powP f.b (2 * e)).2)) hx (by show 0 < 4 * _; omega)
  have B2 := wo_mul_iff (p := ((2 * c + 1) * (2 * c + 1) * (powP f.b (2 * e)).1, 4 * (powP f.b (2 * e)).2)) (q := x) (by show 0 < 4 * _; omega) hx
  have wM : 4 * wo ((2 * c + 1) * (2 * c + 1) * (powP f.b (2 * e)).1, 4 * (powP f.b (2 * e)).2) = (((2 * c + 1) * (2 * c + 1) : Int) : Rat) * bp (f.b * f.b) e := by
    have := wo_scale (u := powP f.b (2 * e)) ((2 * c + 1) * (2 * c + 1)) 4 (by decide)
    rw [wu] at this
    exact this
  refine ⟨?_, ?_, ?_, ?_, ?_⟩
  · refine A.2.trans ?_
    rw [wA]
    cases sd with
    | none => exact ⟨fun _ => rfl, fun _ => s0⟩
    | some z => exact ⟨fun q => by have := s0.1; rw [q] at this; exact absurd this Rat.lt_irrefl, fun q => by cases q⟩
  · rintro z rfl
    refine B1.1.trans ?_
    generalize wo ((2 * c + 1) * (2 * c + 1) * (powP f.b (2 * e)).1, 4 * (powP f.b (2 * e)).2) = M at wM
    rcases s0.2 with ⟨rfl, q⟩ | ⟨rfl, q⟩ | ⟨rfl, q⟩
    · exact ⟨fun y => by exfalso; grind, fun y => by cases y⟩
    · exact ⟨fun y => by exfalso; grind, fun y => by cases y⟩
    · exact ⟨fun _ => rfl, fun _ => by grind⟩
  · rintro z rfl
    refine B2.1.trans ?_
    generalize wo ((2 * c + 1) * (2 * c + 1) * (powP f.b (2 * e)).1, 4 * (powP f.b (2 * e)).2) = M at wM
    rcases s0.2 with ⟨rfl, q⟩ | ⟨rfl, q⟩ | ⟨rfl, q⟩
    · exact ⟨fun _ => rfl, fun _ => by grind⟩
    · exact ⟨fun y => by exfalso; grind, fun y => by cases y⟩
    · exact ⟨fun y => by exfalso; grind, fun y => by cases y⟩
  · rintro z rfl
    rcases s0.2 with ⟨rfl, q⟩ | ⟨rfl, q⟩ | ⟨rfl, q⟩
    · exact .inl rfl
    · exact .inr (.inl rfl)
    · exact .inr (.inr rfl)
  · have cv := powP_can hb (2 * (f.lo + f.p - 1))
    have wv' : wo (powP f.b (2 * (f.lo + f.p - 1))) = ((f.F * f.F : Int) : Rat) * bp (f.b * f.b) f.lo := by
      have h1 : wo (powP f.b (2 * (f.lo + f.p - 1))) = bp (f.b * f.b) (f.lo + f.p - 1) := bp_two hb _
      have := bp_up hB f.lo (f.p - 1).toNat
      have p2 := hf.p2
      rw [show f.lo + ((f.p - 1).toNat : Int) = f.lo + f.p - 1 by omega, pow_sq] at this
      rw [h1]
      exact this
    refine (wo_mul_iff hx cv.pos).1.trans ?_
    rw [wv']
    have F0 := hf.F_pos
    have c0 := r.c0
    rcases r.cF with q | q
    · subst q
      refine ⟨fun y => ?_, fun y => ?_⟩
      · exact (sq_lt c0 (by omega)).mp (bp_lt hB le y)
      · have h1 : (c + 1) * (c + 1) ≤ f.F * f.F := by
          refine Int.not_lt.mp fun z => ?_
          have := (sq_lt (show 0 ≤ f.F by omega) (show 0 ≤ c + 1 by omega)).mp z
          omega
        exact Std.lt_of_lt_of_le lt (mul_le_bp hB h1 _)
    · refine ⟨fun y => ?_, fun y => by omega⟩
      exfalso
      have h1 : f.F * f.F ≤ c * c := by
        refine Int.not_lt.mp fun z => ?_
        have := (sq_lt c0 (show 0 ≤ f.F by omega)).mp z
        omega
      have h2 := mul_le_bp hB h1 f.lo
      have h3 : ((c * c : Int) : Rat) * bp (f.b * f.b) f.lo ≤ ((c * c : Int) : Rat) * bp (f.b * f.b) e := by
        have m := bp_mono hB r.e0
        have : (0 : Rat) ≤ ((c * c : Int) : Rat) := by exact_mod_cast (Int.mul_nonneg c0 c0)
        exact Rat.mul_le_mul_of_nonneg_left m this
      exact absurd (Std.lt_of_lt_of_le y (Rat.le_trans h2 (Rat.le_trans h3 le))) Rat.lt_irrefl
theorem root_big {f : Fm} (hf : FmOk f) {x : P2} {c e : Int} {sd : Option Int} (h : RootAt f x c e sd) {way : Str} (ho : f.hi < (upC f way 0 c e sd).2) : ¬ c < f.F := fun z => by
  have TF := hf.TF
  have W0 := hf.W_pos
  have lh := hf.lh
  have el : e = f.lo := by
    rcases h.cF with q | q
    · exact q
    · omega
  revert ho
  unfold upC uN
  split
  · split
    · intro _
      omega
    · intro ho
      have ho : f.hi < e := ho
      omega
  · intro ho
    have ho : f.hi < e := ho
    omega
end VI

/-! PL27: whole numbers (k28). -/
namespace VI
open PySem
/-- a NUMBER's FLAGS, and that it is not the worth itself -/
def inxG (same : Bool) (G : List Str) : List Str := if same = true then G else if G = [] then ["inexact"] else G
def WholeTo (f : Fm) (way : Str) : Vl → Vl → List Str → Prop
  | .num s c e => fun w G => ∃ G0, RoundTo f way (nq way (wv f.b s c e), 1) s w G0 ∧ G = inxG (decide (wv f.b s c e = (nq way (wv f.b s c e), 1))) G0
  | v => Out0 v []
theorem inx_mem {b : Bool} {G : List Str} (h : G ∈ flags4) : inxG b G ∈ flags4 := by
  unfold inxG
  split
  · exact h
  · split
    · simp [flags4]
    · exact h
theorem one_whole {f : Fm} (hf : FmOk f) {way : Str} {v : Vl} (hv : VlOk f v) : OneOut f (WholeTo f way v) := by
  cases v with
  | nan => exact one_out0 hv (by simp [flags6, flags4])
  | inf s => exact one_out0 hv (by simp [flags6, flags4])
  | num s c e =>
    have hs := hv.s
    have o := one_round hf (way := way) (x := (nq way (wv f.b s c e), 1)) hs
    refine ⟨?_, ?_, ?_⟩
    · rintro w G w' G' ⟨G0, h, rfl⟩ ⟨G0', h', rfl⟩
      obtain ⟨rfl, rfl⟩ := o.uniq _ _ _ _ h h'
      exact ⟨rfl, rfl⟩
    · rintro w G ⟨G0, h, rfl⟩
      exact o.vl _ _ h
    · rintro w G ⟨G0, h, rfl⟩
      exact List.mem_cons_of_mem _ (List.mem_cons_of_mem _ (inx_mem (round_fl h)))
theorem near_abs {way : Str} (hw : way ∈ ways5) {q : P2} (h : 0 < q.2) : (nq way q).natAbs ≤ q.1.natAbs + 1 := by
  obtain ⟨n, d⟩ := q
  obtain ⟨fl, r, hq, hn, h0, h1⟩ := fdiv_parts (n := n) h
  have h : 0 < d := h
  have h1 : r < d := h1
  have hq : n.fdiv d = fl := hq
  have hn : n = fl * d + r := hn
  have hr : n - fl * d = r := by omega
  have a : fl.natAbs ≤ n.natAbs + 1 ∧ (fl + 1).natAbs ≤ n.natAbs + 1 := by
    by_cases z : 0 ≤ fl
    · have : fl * 1 ≤ fl * d := Int.mul_le_mul_of_nonneg_left (by omega) z
      omega
    · have : (-fl - 1) * 1 ≤ (-fl - 1) * d := Int.mul_le_mul_of_nonneg_left (by omega) (by omega)
      have e : (-fl - 1) * d = -(fl * d) - d := by grind
      omega
  have a2 : (fl + fl % 2).natAbs ≤ n.natAbs + 1 := by
    rcases (show fl % 2 = 0 ∨ fl % 2 = 1 by omega) with e | e <;> rw [e]
    · rw [Int.add_zero]; exact a.1
    · exact a.2
  unfold nq
  show (near way n d (n.fdiv d) (n - n.fdiv d * d)).natAbs ≤ n.natAbs + 1
  rw [hq, hr]
  unfold near
  repeat' split
  all_goals first | exact a.1 | exact a.2 | exact a2
theorem nq_int (way : Str) (m : Int) : nq way (m, 1) = m := by
  unfold nq
  show near way m 1 (m.fdiv 1) (m - m.fdiv 1 * 1) = m
  rw [Int.fdiv_one, Int.mul_one, Int.sub_self]
  exact if_pos rfl
/-- an integer's part is exact below exponents from 0 on -/
theorem part_int {f : Fm} (hf : FmOk f) {m c e : Int} {sd : Option Int} (hp : PartAt f (m, 1) c e sd) (he : e < 0) : sd = none := by
  have hb := hf.b2
  have h1 := hp.le
  have h2 := hp.lt
  have w : wo (m, 1) = ((m * f.b ^ (-e).toNat : Int) : Rat) * bp f.b e := by
    rw [wo_int]
    have := bp_split hb (show e ≤ 0 by omega)
    have b0 : bp f.b 0 = 1 := by
      have := bp_nat f.b 0
      rw [show ((0 : Nat) : Int) = 0 from rfl] at this
      rw [this]
      simp
    rw [b0, show 0 - e = -e by omega] at this
    push_cast at this ⊢
    grind
  have p := bp_pos hb e
  generalize m * f.b ^ (-e).toNat = M at w
  have g1 : c ≤ M := Int.not_lt.mp fun l => by
    have := mul_lt_bp hb l e
    grind
  have g2 : M < c + 1 := Int.not_le.mp fun l => by
    have := mul_le_bp hb l e
    grind
  have g : c = M := by omega
  have s := hp.sd
  cases sd with
  | none => rfl
  | some z =>
    have s : (c : Rat) * bp f.b e < wo (m, 1) := s.1
    rw [w, g] at s
    exact absurd s Rat.lt_irrefl
theorem int_up {f : Fm} (hf : FmOk f) (s c e : Int) (he : 0 ≤ e) : ∃ m : Int, wv f.b s c e = (m, 1) := by
  have hb := hf.b2
  refine ⟨sg s * c * f.b ^ e.toNat, wo_eq (wv_can hb ..) (can_int _) ?_⟩
  rw [wo_wv hb, wo_int, bp_split hb he, show e - 0 = e by omega]
  have b0 : bp f.b 0 = 1 := by
    have := bp_nat f.b 0
    rw [show ((0 : Nat) : Int) = 0 from rfl] at this
    rw [this]
    simp
  rw [b0]
  push_cast
  grind
theorem absP_int (m : Int) : absP (m, 1) = ((m.natAbs : Int), 1) := rfl
/-- what an integer is rounded to is an integer -/
theorem round_int {f : Fm} (hf : FmOk f) {way : Str} {m s : Int} {s' k j : Int} {G : List Str} (h : RoundTo f way (m, 1) s (.num s' k j) G) (hG : ("over" : Str) ∉ G) : ∃ m' : Int, wv f.b s' k j = (m', 1) := by
  have hb := hf.b2
  rcases h with ⟨z, e, rfl⟩ | ⟨z, c, e, sd, hp, ew, rfl⟩
  · have e : Vl.num s' k j = .num s 0 f.lo := e
    injection e with e1 e2 e3
    subst e1 e2 e3
    refine ⟨0, wo_eq (wv_can hb ..) (can_int _) ?_⟩
    rw [wo_wv hb, wo_int]
    simp
  · have ew : Vl.num s' k j = finV f way (sgF (m, 1)) c e sd := ew
    rw [absP_int] at hp
    unfold finV at ew
    unfold finG at hG
    by_cases y : f.hi < (upC f way (sgF (m, 1)) c e sd).2
    · rw [if_pos y] at hG
      exact absurd (show ("over" : Str) ∈ (["inexact", "over"] : List Str) by simp) hG
    rw [if_neg y] at ew
    injection ew with e1 e2 e3
    by_cases j0 : 0 ≤ j
    · exact int_up hf _ _ _ j0
    have e0 : e < 0 := by
      unfold upC at e3
      split at e3
      · unfold uN at e3
        split at e3
        · have e3 : j = e + 1 := e3
          omega
        · have e3 : j = e := e3
          omega
      · have e3 : j = e := e3
        omega
    have sn := part_int hf hp e0
    subst sn
    have u : upC f way (sgF (m, 1)) c e none = (c, e) := by
      unfold upC
      rw [if_neg (by show ¬ (false = true); decide)]
    rw [u] at e2 e3
    have e2 : k = c := e2
    have e3 : j = e := e3
    subst e2 e3
    have q : (k : Rat) * bp f.b j = wo ((m.natAbs : Int), 1) := hp.sd
    refine ⟨sg s' * (m.natAbs : Int), wo_eq (wv_can hb ..) (can_int _) ?_⟩
    rw [wo_wv hb, wo_int]
    rw [wo_int] at q
    push_cast at q ⊢
    grind
/-- a NUMBER's rounding is itself -/
theorem round_self {f : Fm} (hf : FmOk f) {way : Str} {s c e : Int} (h : NumOk f s c e) : RoundTo f way (wv f.b s c e) s (.num s c e) [] := by
  by_cases z : c = 0
  · subst z
    have : e = f.lo := by
      rcases h.c2 with q | q
      · exact q
      · have := hf.F_pos
        have q : f.F ≤ 0 := q
        omega
    subst this
    refine .inl ⟨?_, rfl, rfl⟩
    have := (wv_sign hf h).1
    apply Classical.byContradiction
    intro y
    exact this.mp y rfl
  · refine .inr ⟨(wv_sign hf h).1.mpr z, c, e, none, ?_, ?_, ?_⟩
    · rw [absP_wv hf.b2 h.c0]
      exact num_part hf ⟨.inl rfl, h.e1, h.e2, h.c0, h.c1, h.c2⟩
    · have sgn := (wv_sign hf h).2
      have es : sgF (wv f.b s c e) = s := by
        unfold sgF
        have hs := h.s
        split
        · rename_i q
          exact (sgn.mp q).1.symm
        · rename_i q
          have : ¬ s = 1 := fun w => q (sgn.mpr ⟨w, z⟩)
          omega
      unfold finV upC
      have u : ¬ upB way (sgF (wv f.b s c e)) c none = true := by show ¬ (false = true); decide
      have l : ¬ f.hi < e := by have := h.e2; omega
      rw [if_neg u, if_neg l, es]
    · unfold finG upC
      have u : ¬ upB way (sgF (wv f.b s c e)) c none = true := by show ¬ (false = true); decide
      have l : ¬ f.hi < e := by have := h.e2; omega
      rw [if_neg u, if_neg l, if_neg (by simp)]
      exact (if_pos rfl).symm
theorem whole_again {f : Fm} (hf : FmOk f) {way way' : Str} {v w : Vl} {G : List Str} (hv : VlOk f v) (h : WholeTo f way v w G) (hG : ("over" : Str) ∉ G) : WholeTo f way' w w [] := by
  have o := one_whole hf (way := way) hv
  cases w with
  | nan => exact ⟨rfl, rfl⟩
  | inf s => exact ⟨rfl, rfl⟩
  | num s' k j =>
    cases v with
    | nan => exact absurd h.1 (by simp)
    | inf s => exact absurd h.1 (by simp)
    | num s c e =>
      have hw : NumOk f s' k j := o.vl _ _ h
      obtain ⟨G0, h, rfl⟩ := h
      have g : ("over" : Str) ∉ G0 := fun y => hG (by
        unfold inxG
        split
        · exact y
        · split
          · rename_i y2
            rw [y2] at y
            exact absurd y (by simp)
          · exact y)
      obtain ⟨m, e⟩ := round_int hf h g
      refine ⟨[], ?_, ?_⟩
      · have q := round_self hf (way := way') hw
        rw [e] at q ⊢
        rw [nq_int]
        exact q
      · rw [e, nq_int]
        simp [inxG]
theorem cmp_zero {p q : P2} (hp : Can p) (hq : Can q) : cmpP p q = 0 ↔ p = q := by
  unfold cmpP cmpI
  constructor
  · intro h
    refine can_uniq hp hq ?_
    by_cases a : q.1 * p.2 < p.1 * q.2 <;> by_cases b : p.1 * q.2 < q.1 * p.2 <;> simp only [a, b, if_true, if_false] at h <;> omega
  · rintro rfl
    rw [if_neg (Int.lt_irrefl _)]
    rfl
theorem srl_one {p : Str} {ys : List Str} (h : SrlOf [p] ys) : ys = [p] := by
  have := h.2
  exact List.perm_singleton.mp this
theorem srt_one {p : Str} {ts ys : List Str} (h : SrtOf ts ys) (ht : ∀ t, t ∈ ts ↔ t = p) : ys = [p] := by
  obtain ⟨h1, h2, h3⟩ := h
  have pm : ys.Perm [p] := (List.perm_ext_iff_of_nodup h2 (by simp)).mpr fun t => by
    rw [h3, ht]
    simp
  exact List.perm_singleton.mp pm
theorem srt_two {p q : Str} {ts ys : List Str} (h : SrtOf ts ys) (hpq : p ≠ q) (hb : PyProof.Rows.sortedS [q, p] = false) (ht : ∀ t, t ∈ ts ↔ t = p ∨ t = q) : ys = [p, q] := by
  obtain ⟨h1, h2, h3⟩ := h
  have pm : ys.Perm ([p, q] : List Str) := (List.perm_ext_iff_of_nodup h2 (by simpa using hpq)).mpr fun t => by
    rw [h3, ht]
    simp
  have hl := pm.length_eq
  match ys, hl with
  | [a, b], _ =>
    have a1 : a = p ∨ a = q := by simpa using (pm.mem_iff (a := a)).mp (by simp)
    have b1 : b = p ∨ b = q := by simpa using (pm.mem_iff (a := b)).mp (by simp)
    have ne : a ≠ b := fun z => by
      subst z
      simp at h2
    rcases a1 with rfl | rfl <;> rcases b1 with rfl | rfl
    · exact absurd rfl ne
    · rfl
    · rw [hb] at h1
      cases h1
    · exact absurd rfl ne
/-- the law's flags -/
theorem srt_flags {G ys : List Str} (hG : G ∈ flags4) (h : SrtOf (G ++ ([Str.ofString "inexact"] : List Str)) ys) : ys = inxG false G := by
  simp only [flags4, List.mem_cons, List.not_mem_nil, or_false] at hG
  rcases hG with rfl | rfl | rfl | rfl
  · exact srt_one h fun t => by simp
  · exact srt_one h fun t => by simp
  · exact srt_two (p := "inexact") (q := "tiny") h (by decide) (by decide) fun t => by
      simp only [List.cons_append, List.nil_append, List.mem_cons, List.not_mem_nil, or_false]
      constructor
      · rintro (h | h | h) <;> simp [h]
      · rintro (h | h) <;> simp [h]
  · exact srt_two (p := "inexact") (q := "over") h (by decide) (by decide) fun t => by
      simp only [List.cons_append, List.nil_append, List.mem_cons, List.not_mem_nil, or_false]
      constructor
      · rintro (h | h | h) <;> simp [h]
      · rintro (h | h) <;> simp [h]
theorem nq_fra {f : Fm} (hf : FmOk f) {way : Str} (hw : way ∈ ways5) {s c e : Int} (h : NumOk f s c e) : Fra 3202 (nq way (wv f.b s c e), 1) := by
  have f1 := wv_fra hf h
  have a := near_abs hw f1.can.pos
  refine Fra.int (k := 3201) ?_
  have b1 : Bd 3201 ((wv f.b s c e).1.natAbs + 1 : Int) := by
    have b : Bd 3200 (((wv f.b s c e).1.natAbs : Int)) := f1.b1.of_natAbs (by omega)
    exact Bd.add (k := 3200) (l := 64) b (Bd.lit64 1 (by omega))
  exact Bd.up (k := 3201) (Bd.of_natAbs b1 (by omega)) (by decide)
theorem mem_fra {y : D} {l : List P2} {k : Nat} (h : y ∈ l.map dF) (hk : ∀ p ∈ l, Fra k p) : ∃ p, y = dF p ∧ Fra k p := by
  obtain ⟨p, hp, rfl⟩ := List.mem_map.mp h
  exact ⟨p, rfl, hk p hp⟩
def frB (k : Nat) (p : P2) : Bool := decide (0 < p.2) && decide (Int.gcd p.1 p.2 = 1) && decide (p.1.natAbs < 2 ^ k) && decide (p.2.natAbs < 2 ^ k)
theorem fr_of {k : Nat} {p : P2} (h : frB k p = true) : Fra k p := by
  unfold frB at h
  simp only [Bool.and_eq_true, decide_eq_true_eq] at h
  exact ⟨⟨h.1.1.1, h.1.1.2⟩, h.1.2, h.2⟩
theorem frs_of {k : Nat} {l : List P2} (h : l.all (frB k) = true) : ∀ p ∈ l, Fra k p := fun p hp => fr_of (List.all_eq_true.mp h p hp)
theorem ways_mem {y : D} (h : y ∈ ways5.map PyData.str) : ∃ w, y = .str w ∧ w ∈ ways5 := by
  obtain ⟨w, hw, rfl⟩ := List.mem_map.mp h
  exact ⟨w, rfl, hw⟩
def fmWh : List Fm := [⟨2, 3, -2, 1⟩, ⟨2, 2, -3, -2⟩, ⟨10, 2, -3, 0⟩, ⟨4, 2, 1, 3⟩, ⟨2, 2, 0, 0⟩]
theorem fmWh_ok {y : D} (h : y ∈ fmWh.map fmD) : ∃ f, y = fmD f ∧ FmOk f := by
  obtain ⟨f, hf, rfl⟩ := List.mem_map.mp h
  refine ⟨f, rfl, fmOk_of ?_⟩
  have : fmWh.all fmB = true := by decide +kernel
  exact List.all_eq_true.mp this f hf
end VI

/-! PL28: integers there and back (k11). -/
namespace VI
open PySem
def inxD (b : Bool) : D := .tuple (if b = true then [.str "inexact"] else [])
/-- what integer_of tells -/
def iofD (f : Fm) (way : Str) : Vl → D
  | .num s c e => .tuple [.int (nq way (wv f.b s c e)), inxD (!decide (wv f.b s c e = (nq way (wv f.b s c e), 1)))]
  | _ => .tuple [.none, .tuple [.str "invalid"]]
theorem wo_signed (x : P2) : ((sg (sgF x) : Int) : Rat) * wo (absP x) = wo x := by
  unfold sgF
  by_cases h : x.1 < 0
  · rw [if_pos h]
    have e : absP x = (-x.1, x.2) := by
      unfold absP
      rw [show ((x.1.natAbs : Int)) = -x.1 by omega]
    rw [e, wo_neg]
    have : sg 1 = -1 := rfl
    rw [this]
    push_cast
    grind
  · rw [if_neg h]
    have e : absP x = x := by
      unfold absP
      rw [show ((x.1.natAbs : Int)) = x.1 by omega]
    rw [e]
    have : sg 0 = 1 := rfl
    rw [this]
    push_cast
    grind
/-- what is rounded without flags is the worth itself -/
theorem round_exact {f : Fm} (hf : FmOk f) {way : Str} {x : P2} {s : Int} {w : Vl} (hx : Can x) (h : RoundTo f way x s w []) : ∃ s' c e, w = .num s' c e ∧ wv f.b s' c e = x := by
  have hb := hf.b2
  rcases h with ⟨z, e, _⟩ | ⟨z, c, e, sd, hp, ew, eg⟩
  · refine ⟨s, 0, f.lo, e, wo_eq (wv_can hb ..) hx ?_⟩
    rw [wo_wv hb]
    obtain ⟨n, d⟩ := x
    have z : n = 0 := z
    subst z
    unfold wo
    rw [Rat.div_def]
    simp
  · unfold finG at eg
    by_cases y : f.hi < (upC f way (sgF x) c e sd).2
    · rw [if_pos y] at eg
      exact absurd eg (by simp)
    rw [if_neg y] at eg
    by_cases y2 : sd.isSome = true ∧ c < f.F
    · rw [if_pos y2] at eg
      exact absurd eg (by simp)
    rw [if_neg y2] at eg
    by_cases y3 : sd.isNone = true
    · have sn : sd = none := by
        cases sd with
        | none => rfl
        | some _ => cases y3
      subst sn
      have u : upC f way (sgF x) c e none = (c, e) := by
        unfold upC
        rw [if_neg (by show ¬ (false = true); decide)]
      unfold finV at ew
      rw [if_neg y, u] at ew
      refine ⟨_, _, _, ew, wo_eq (wv_can hb ..) hx ?_⟩
      have q : (c : Rat) * bp f.b e = wo (absP x) := hp.sd
      rw [wo_wv hb, ← wo_signed x, ← q]
      push_cast
      grind
    · rw [if_neg y3] at eg
      exact absurd eg (by simp)
/-- whether a fraction is its integer -/
theorem nq_one {way : Str} {q : P2} (hq : Can q) : q = (nq way q, 1) ↔ q.2 = 1 := by
  constructor
  · intro h
    rw [h]
  · intro h
    obtain ⟨n, d⟩ := q
    have h : d = 1 := h
    subst h
    rw [nq_int]
theorem inx_fit (b : Bool) : Fit 2 10000 (inxD b) := by
  have i : Fit 1 4310 (.str "inexact") := ⟨by decide +kernel, by decide +kernel, by decide +kernel, by decide +kernel⟩
  cases b
  · exact (Fit.tup (k := 1) (w := 4310) all_nil).up (by decide) (by simp)
  · exact (Fit.tup (all_cons i all_nil)).up (by decide) (by simp)
theorem iof_fit {f : Fm} (hf : FmOk f) {way : Str} (hw : way ∈ ways5) {v : Vl} (hv : VlOk f v) : RepOk (iofD f way v) := by
  have n : Fit 3 37000 (.tuple [.none, .tuple [.str "invalid"]]) := by
    have i : Fit 1 4310 (.str "invalid") := ⟨by decide +kernel, by decide +kernel, by decide +kernel, by decide +kernel⟩
    exact (Fit.tup (k := 2) (w := 18000) (all_cons (Fit.none.up (by decide) (by decide)) (all_cons ((Fit.tup (all_cons i all_nil)).up (by decide) (by simp)) all_nil))).up (by decide) (by simp)
  cases v with
  | nan => exact n.rep (by decide) (by decide)
  | inf s => exact n.rep (by decide) (by decide)
  | num s c e =>
    have fn := nq_fra hf hw (show NumOk f s c e from hv)
    have : Fit 3 37000 (iofD f way (.num s c e)) := (Fit.tup (k := 2) (w := 18000) (all_cons ((Fit.bd (show Bd 3202 (nq way (wv f.b s c e)) from fn.b1) (by decide)).up (by decide) (by decide)) (all_cons ((inx_fit _).up (by decide) (by decide)) all_nil))).up (by decide) (by simp)
    exact this.rep (by decide) (by decide)
/-- an integer's own VALUE, led back -/
theorem iof_back {f : Fm} {way : Str} {s c e n : Int} (h : wv f.b s c e = (n, 1)) : iofD f way (.num s c e) = .tuple [.int n, .tuple []] := by
  show (.tuple [.int (nq way (wv f.b s c e)), inxD (!decide (wv f.b s c e = (nq way (wv f.b s c e), 1)))] : D) = _
  rw [h, nq_int, decide_eq_true rfl]
  rfl
end VI

/-! PL29: formats in formats (k13, k12). -/
namespace VI
open PySem
theorem lt_iff {p q : P2} (hp : 0 < p.2) (hq : 0 < q.2) : p.1 * q.2 < q.1 * p.2 ↔ wo p < wo q := by
  have a : (0 : Rat) < p.2 := by exact_mod_cast hp
  have b : (0 : Rat) < q.2 := by exact_mod_cast hq
  have e : wo q * (p.2 : Rat) = ((q.1 : Rat) * p.2) / q.2 := by
    unfold wo
    rw [Rat.div_def, Rat.div_def]
    grind
  unfold wo at e ⊢
  rw [Rat.div_lt_iff a, e, Rat.lt_div_iff b]
  constructor
  · intro h
    exact_mod_cast h
  · intro h
    exact_mod_cast h
/-- compared by worths -/
theorem cmp_le0 {p q : P2} (hp : 0 < p.2) (hq : 0 < q.2) : cmpP p q ≤ 0 ↔ wo p ≤ wo q := by
  have h := lt_iff hq hp
  rw [← Rat.not_lt, ← h]
  unfold cmpP cmpI
  constructor
  · intro le lt
    rw [if_pos lt] at le
    split at le <;> omega
  · intro n
    rw [if_neg n]
    split <;> omega
theorem cmp_gt0 {p q : P2} (hp : 0 < p.2) (hq : 0 < q.2) : 0 < cmpP p q ↔ wo q < wo p := by
  rw [← Rat.not_le, ← cmp_le0 hp hq]
  omega
theorem cmp_eq0 {p q : P2} (hp : 0 < p.2) (hq : 0 < q.2) : cmpP p q = 0 ↔ wo p = wo q := by
  have h := cmp_le0 hp hq
  have h' := cmp_gt0 hp hq
  have g := lt_iff hp hq
  constructor
  · intro e
    have a := h.mp (by omega)
    refine Rat.le_antisymm a ?_
    rw [← Rat.not_lt, ← g]
    unfold cmpP cmpI at e
    intro z
    rw [if_pos z] at e
    split at e <;> omega
  · intro e
    unfold cmpP cmpI
    have n1 : ¬ p.1 * q.2 < q.1 * p.2 := fun z => by
      rw [g, e] at z
      exact absurd z Rat.lt_irrefl
    have n2 : ¬ q.1 * p.2 < p.1 * q.2 := fun z => by
      rw [lt_iff hq hp, e] at z
      exact absurd z Rat.lt_irrefl
    rw [if_neg n1, if_neg n2]
    rfl
def uAt (o : Fm) (k : Int) : Int := max o.lo (k - o.p + 1)
/-- what is_held tells -/
def heldB (o : Fm) (k : Int) (x : P2) : Bool := decide (uAt o k ≤ o.hi) && (if uAt o k < 0 then decide (x.1 * o.b ^ (-(uAt o k)).toNat % x.2 = 0) else decide (x.1 % (x.2 * o.b ^ (uAt o k).toNat) = 0))
/-- a fraction from 0 on is the worth of a number -/
def HasN (o : Fm) (x : P2) : Prop := ∃ c e, NumOk o 0 c e ∧ (c : Rat) * bp o.b e = wo x
theorem bp_le {b : Int} (hb : 2 ≤ b) {e e' : Int} (h : e ≤ e') : bp b e ≤ bp b e' := by
  rw [bp_split hb h]
  have p := powI_pos hb (e' - e).toNat
  have : ((1 : Int) : Rat) * bp b e ≤ ((b ^ (e' - e).toNat : Int) : Rat) * bp b e := mul_le_bp hb (by omega) e
  simpa using this
theorem bp_cmp {b : Int} (hb : 2 ≤ b) {e e' : Int} (h : bp b e < bp b e') : e < e' := by
  apply Int.not_le.mp
  intro z
  exact absurd (Std.lt_of_lt_of_le h (bp_le hb z)) Rat.lt_irrefl
theorem held_iff {o : Fm} (hb : 2 ≤ o.b) {x : P2} (hd : 0 < x.2) {k : Int} : heldB o k x = true ↔ uAt o k ≤ o.hi ∧ ∃ m : Int, (m : Rat) * bp o.b (uAt o k) = wo x := by
  obtain ⟨n, d⟩ := x
  have hd : 0 < d := hd
  have key : (∃ m : Int, (m : Rat) * bp o.b (uAt o k) = wo (n, d)) ↔ (if uAt o k < 0 then decide (n * o.b ^ (-(uAt o k)).toNat % d = 0) else decide (n % (d * o.b ^ (uAt o k).toNat) = 0)) = true := by
    generalize uAt o k = u
    by_cases hu : u < 0
    · have z1 : (max 0 u).toNat = 0 := by omega
      have z2 : max 0 (-u) = -u := by omega
      rw [if_pos hu, decide_eq_true_eq]
      constructor
      · rintro ⟨m, h⟩
        rw [wo_eq_iff hb hd, z1, z2, Int.pow_zero, Int.mul_one] at h
        rw [← h]
        exact Int.mul_emod_left m d
      · intro h
        obtain ⟨m, hm⟩ := Int.dvd_of_emod_eq_zero h
        refine ⟨m, (wo_eq_iff hb hd m u).mpr ?_⟩
        rw [z1, z2, Int.pow_zero, Int.mul_one, hm, Int.mul_comm]
    · have z1 : max 0 u = u := by omega
      have z2 : (max 0 (-u)).toNat = 0 := by omega
      rw [if_neg hu, decide_eq_true_eq]
      constructor
      · rintro ⟨m, h⟩
        rw [wo_eq_iff hb hd, z1, z2, Int.pow_zero, Int.mul_one] at h
        rw [← h]
        exact Int.mul_emod_left m _
      · intro h
        obtain ⟨m, hm⟩ := Int.dvd_of_emod_eq_zero h
        refine ⟨m, (wo_eq_iff hb hd m u).mpr ?_⟩
        rw [z1, z2, Int.pow_zero, Int.mul_one, hm, Int.mul_comm]
  unfold heldB
  rw [Bool.and_eq_true, decide_eq_true_eq, ← key]
theorem T_bp {o : Fm} (ho : FmOk o) (e : Int) : (o.T : Rat) * bp o.b e = bp o.b (e + o.p) := by
  have hp := ho.p2
  have := bp_up ho.b2 e o.p.toNat
  rw [show e + ((o.p.toNat : Nat) : Int) = e + o.p by omega] at this
  rw [this]
  rfl
theorem F_bp {o : Fm} (ho : FmOk o) (e : Int) : (o.F : Rat) * bp o.b e = bp o.b (e + (o.p - 1)) := by
  have hp := ho.p2
  have := bp_up ho.b2 e (o.p - 1).toNat
  rw [show e + (((o.p - 1).toNat : Nat) : Int) = e + (o.p - 1) by omega] at this
  rw [this]
  rfl
theorem held_num {o : Fm} (ho : FmOk o) {x : P2} (hd : 0 < x.2) {k : Int} (h1 : bp o.b k ≤ wo x) (h2 : wo x < bp o.b (k + 1)) : heldB o k x = true ↔ HasN o x := by
  have hb := ho.b2
  have p2 := ho.p2
  have pos : 0 < wo x := Std.lt_of_lt_of_le (bp_pos hb k) h1
  rw [held_iff hb hd]
  constructor
  · rintro ⟨hu, m, hm⟩
    refine ⟨m, uAt o k, ⟨.inl rfl, by unfold uAt; omega, hu, ?_, ?_, ?_⟩, hm⟩
    · apply Int.not_lt.mp
      intro z
      have := mul_lt_bp hb z (uAt o k)
      rw [hm, show ((0 : Int) : Rat) * bp o.b (uAt o k) = 0 by simp] at this
      exact absurd (Std.lt_trans pos this) Rat.lt_irrefl
    · show m < o.T
      apply Int.not_le.mp
      intro z
      have a := mul_le_bp hb z (uAt o k)
      rw [hm, T_bp ho] at a
      have b := bp_le hb (show k + 1 ≤ uAt o k + o.p by unfold uAt; omega)
      exact absurd (Std.lt_of_lt_of_le h2 (Rat.le_trans b a)) Rat.lt_irrefl
    · by_cases z : uAt o k = o.lo
      · exact .inl z
      · right
        have e : uAt o k = k - o.p + 1 := by unfold uAt at z ⊢; omega
        show o.F ≤ m
        apply Int.not_lt.mp
        intro y
        have a := mul_lt_bp hb y (uAt o k)
        rw [hm, F_bp ho, e, show k - o.p + 1 + (o.p - 1) = k by omega] at a
        exact absurd (Std.lt_of_le_of_lt h1 a) Rat.lt_irrefl
  · rintro ⟨c, e, hn, hc⟩
    have c1 : c < o.T := hn.c1
    have lt : bp o.b k < bp o.b (e + o.p) := by
      rw [← T_bp ho]
      refine Std.lt_of_le_of_lt h1 ?_
      rw [← hc]
      exact mul_lt_bp hb c1 e
    have hk : k < e + o.p := bp_cmp hb lt
    have e1 := hn.e1
    have e2 := hn.e2
    have hu : uAt o k ≤ e := by unfold uAt; omega
    refine ⟨by omega, c * o.b ^ (e - uAt o k).toNat, ?_⟩
    rw [← hc, bp_split hb hu]
    push_cast
    grind
/-- the last integer below a fraction -/
theorem ceil_lt {q : P2} (hq : Can q) (t : Int) : t ≤ -((-q.1).fdiv q.2) - 1 ↔ (t : Rat) < wo q := by
  obtain ⟨n, d⟩ := q
  have hd : 0 < d := hq.pos
  have b := below_iff (can_int t) hq
  rw [wo_int] at b
  rw [← b]
  show t ≤ -((-n).fdiv d) - 1 ↔ t * d < n * 1
  obtain ⟨f, r, hq, hn, h0, h1⟩ := fdiv_parts (n := -n) hd
  rw [hq]
  constructor
  · intro h
    have : t * d ≤ (-f - 1) * d := Int.mul_le_mul_of_nonneg_right (by omega) (by omega)
    have e : (-f - 1) * d = -(f * d) - d := by grind
    omega
  · intro h
    apply Int.not_lt.mp
    intro z
    have : (-f) * d ≤ t * d := Int.mul_le_mul_of_nonneg_right (by omega) (by omega)
    have e : (-f) * d = -(f * d) := by grind
    omega
theorem quot_lt {X u : P2} (hX : Can X) (hu : Can u) (h0 : 0 < u.1) (t : Int) : t ≤ -((-(divP X u).1).fdiv (divP X u).2) - 1 ↔ (t : Rat) * wo u < wo X := by
  have n0 : u.1 ≠ 0 := by omega
  have up : 0 < wo u := by
    have := (below_iff can01 hu).mp (by show 0 * u.2 < u.1 * 1; omega)
    rwa [wo01] at this
  rw [ceil_lt (can_div hX n0), wo_div hX hu n0]
  have ne : wo u ≠ 0 := wo_ne hu n0
  have e : wo X = wo X / wo u * wo u := by
    rw [Rat.div_def]
    grind
  constructor
  · intro h
    rw [e]
    exact (Rat.mul_lt_mul_right up).mpr h
  · intro h
    rw [e] at h
    exact (Rat.mul_lt_mul_right up).mp h
theorem pow_bd {b : Int} (hb : 2 ≤ b) (h36 : b ≤ 36) {x : P2} {K : Nat} (hx : Fb K x) (h0 : 0 < x.1) {k : Int} (h1 : bp b k ≤ wo x) (h2 : wo x < bp b (k + 1)) : Fra (K + 7) (powP b (k + 1)) := by
  obtain ⟨n, d⟩ := x
  have hd : 0 < d := hx.pos
  have h0 : 0 < n := h0
  have one : Bd (K + 7) (1 : Int) := Bd.up (k := 7) (by unfold Bd; decide) (by omega)
  have bb : Bd 6 b := by unfold Bd; omega
  refine ⟨powP_can hb _, ?_, ?_⟩
  · unfold powP
    split
    · rename_i hk
      by_cases z : k + 1 = 0
      · rw [z]
        show Bd (K + 7) (b ^ 0)
        rw [Int.pow_zero]
        exact one
      · have key := (wo_ge hb hd 1 k).mp (by simpa using h1)
        rw [show (max 0 (-k)).toNat = 0 by omega, Int.pow_zero, Int.mul_one, Int.one_mul, show max 0 k = k by omega] at key
        have p := powI_pos hb k.toNat
        have h3 : 1 * b ^ k.toNat ≤ d * b ^ k.toNat := Int.mul_le_mul_of_nonneg_right (by omega) (by omega)
        have b1 : Bd K (b ^ k.toNat) := hx.b1.of_natAbs (show (b ^ k.toNat).natAbs ≤ n.natAbs by omega)
        rw [show (k + 1).toNat = k.toNat + 1 by omega, Int.pow_succ]
        exact (b1.mul bb).up (by omega)
    · exact one
  · unfold powP
    split
    · exact one
    · rename_i hk
      have key := (wo_gt hb hd 1 (k + 1)).mp (by simpa using h2)
      rw [show (max 0 (k + 1)).toNat = 0 by omega, Int.pow_zero, Int.mul_one, Int.one_mul, show max 0 (-(k + 1)) = -(k + 1) by omega] at key
      have p := powI_pos hb (-(k + 1)).toNat
      have h3 : 1 * b ^ (-(k + 1)).toNat ≤ n * b ^ (-(k + 1)).toNat := Int.mul_le_mul_of_nonneg_right (by omega) (by omega)
      exact (hx.b2.of_natAbs (show (b ^ (-(k + 1)).toNat).natAbs ≤ d.natAbs by omega)).up (by omega)
theorem wo_times {u : P2} (t : Int) : wo (t * u.1, u.2) = (t : Rat) * wo u := by
  unfold wo
  show ((t * u.1 : Int) : Rat) / _ = (t : Rat) * ((u.1 : Rat) / _)
  rw [Rat.div_def, Rat.div_def]
  push_cast
  grind
theorem held_all {o : Fm} (hb : 2 ≤ o.b) {u : P2} (hu : 0 < u.2) {k c : Int} (h1 : heldB o k (c * u.1, u.2) = true) (h2 : heldB o k ((c + 1) * u.1, u.2) = true) (t : Int) : heldB o k (t * u.1, u.2) = true := by
  rw [held_iff hb (x := (c * u.1, u.2)) hu] at h1
  rw [held_iff hb (x := ((c + 1) * u.1, u.2)) hu] at h2
  rw [held_iff hb (x := (t * u.1, u.2)) hu]
  obtain ⟨a, m1, e1⟩ := h1
  obtain ⟨_, m2, e2⟩ := h2
  rw [wo_times] at e1 e2 ⊢
  refine ⟨a, t * (m2 - m1), ?_⟩
  have : ((m2 - m1 : Int) : Rat) * bp o.b (uAt o k) = wo u := by
    push_cast at e1 e2 ⊢
    grind
  push_cast at this ⊢
  grind
/-- the powers that power_of can make -/
def PK (b k : Int) : Prop := -27000 ≤ k ∧ (-1330 ≤ k ∨ Bd 8990 (b ^ (-k).toNat))
theorem PK.up {b : Int} (hb : 2 ≤ b) {k k' : Int} (h : PK b k) (e : k ≤ k') : PK b k' := by
  refine ⟨by have := h.1; omega, ?_⟩
  rcases h.2 with z | z
  · exact .inl (by omega)
  · exact .inr (bd_pow_le hb (by omega) z)
theorem Fb.powP {b : Int} (hb : 2 ≤ b) (h36 : b ≤ 36) {e : Int} {n : Nat} (he : e.natAbs ≤ n) : Fb (6 * n + 1) (powP b e) := by
  have bb : Bd 6 b := by unfold Bd; omega
  have one : Bd (6 * n + 1) (1 : Int) := Bd.up (k := 1) (by unfold Bd; decide) (by omega)
  refine ⟨(powP_can hb e).pos, ?_, ?_⟩
  · unfold VI.powP
    split
    · exact (bb.pow _).up (by omega)
    · exact one
  · unfold VI.powP
    split
    · exact one
    · exact (bb.pow _).up (by omega)
/-! ### what is lost -/
def LostAt (f o : Fm) (e : Int) : Option Vl → Prop
  | none => ∀ c, NumOk f 0 c e → 1 ≤ c → HasN o (wv f.b 0 c e)
  | some v => ∃ c, v = .num 0 c e ∧ NumOk f 0 c e ∧ ¬ HasN o (wv f.b 0 c e)
def LostN (f o : Fm) : Option Vl → Prop
  | none => ∀ c e, NumOk f 0 c e → HasN o (wv f.b 0 c e)
  | some v => ∃ c e, v = .num 0 c e ∧ NumOk f 0 c e ∧ ¬ HasN o (wv f.b 0 c e)
/-- the first c above 0 at an exponent -/
def c0At (f : Fm) (e : Int) : Int := if e = f.lo then 1 else f.F
theorem hasN_wv {f o : Fm} (hf : FmOk f) {c e : Int} {x : P2} (h : wo x = (c : Rat) * bp f.b e) : HasN o x ↔ HasN o (wv f.b 0 c e) := by
  unfold HasN
  rw [h, wo_sg0 hf.b2]
theorem hasN_zero {f o : Fm} (hf : FmOk f) (ho : FmOk o) (e : Int) : HasN o (wv f.b 0 0 e) := by
  refine ⟨0, o.lo, zeroOk ho, ?_⟩
  rw [wo_sg0 hf.b2]
  simp
theorem hasN_is {o : Fm} {f : Fm} (hf : FmOk f) {c e : Int} (h0 : 0 ≤ c) : HasN o (wv f.b 0 c e) ↔ ¬ IsNum o (wv f.b 0 c e) none := by
  have a : absP (wv f.b 0 c e) = wv f.b 0 c e := absP_wv hf.b2 h0
  constructor
  · rintro ⟨c', e', hn, hc⟩ h
    exact h c' e' ⟨hn, by rw [a]; exact hc⟩
  · intro h
    apply Classical.byContradiction
    intro z
    refine h fun c' e' hs => z ⟨c', e', hs.1, ?_⟩
    have := hs.2
    rwa [a] at this
theorem lostN_uniq {f o : Fm} {r : Option Vl} (h : LostN f o r) : r = none ↔ ∀ c e, NumOk f 0 c e → HasN o (wv f.b 0 c e) := by
  cases r with
  | none => exact ⟨fun _ => h, fun _ => rfl⟩
  | some v =>
    obtain ⟨c, e, rfl, hn, hh⟩ := h
    exact ⟨(fun z => by cases z), fun z => absurd (z c e hn) hh⟩
/-! ### turned there and back -/
/-- a NUMBER of one format that is a NUMBER of another one -/
theorem there {f o : Fm} (hf : FmOk f) (ho : FmOk o) {way : Str} {s c e : Int} (hn : NumOk f s c e) (h : HasN o (wv f.b 0 c e)) {w : Vl} {G : List Str} (t : TurnedTo f way o (.num s c e) w G) :
    G = [] ∧ ∃ k j, w = .num s k j ∧ NumOk o s k j ∧ wv o.b s k j = wv f.b s c e := by
  obtain ⟨k, j, hk, e1⟩ := h
  rw [wo_sg0 hf.b2] at e1
  have hs := hn.s
  have hk' : NumOk o s k j := hk.sign hs
  have ew : wv o.b s k j = wv f.b s c e := by
    refine wo_eq (wv_can ho.b2 ..) (wv_can hf.b2 ..) ?_
    rw [wo_wv ho.b2, wo_wv hf.b2]
    push_cast
    grind
  have q := round_self ho (way := way) hk'
  rw [ew] at q
  obtain ⟨rfl, rfl⟩ := round_uniq ho q t
  exact ⟨rfl, k, j, rfl, hk', ew⟩
theorem back {f o : Fm} (hf : FmOk f) (ho : FmOk o) {way : Str} {s c e k j : Int} (hn : NumOk f s c e) (ew : wv o.b s k j = wv f.b s c e) {w : Vl} {G : List Str} (t : TurnedTo o way f (.num s k j) w G) : w = .num s c e ∧ G = [] := by
  have q := round_self hf (way := way) hn
  rw [← ew] at q
  obtain ⟨rfl, rfl⟩ := round_uniq hf q t
  exact ⟨rfl, rfl⟩
/-- what is of a format is turned to itself -/
theorem turn_self {o : Fm} (ho : FmOk o) {way : Str} {v w : Vl} {G : List Str} (hv : VlOk o v) (t : TurnedTo o way o v w G) : w = v ∧ G = [] := by
  cases v with
  | nan => exact t
  | inf s => exact t
  | num s c e =>
    obtain ⟨rfl, rfl⟩ := round_uniq ho (round_self ho (way := way) hv) t
    exact ⟨rfl, rfl⟩
/-- a lost NUMBER comes inexact -/
theorem lost_inexact {f o : Fm} (hf : FmOk f) (ho : FmOk o) {way : Str} {c e : Int} (hn : NumOk f 0 c e) (h : ¬ HasN o (wv f.b 0 c e)) {w : Vl} {G : List Str} (t : TurnedTo f way o (.num 0 c e) w G) : ("inexact" : Str) ∈ G := by
  have hG := round_fl t
  simp only [flags4, List.mem_cons, List.not_mem_nil, or_false] at hG
  rcases hG with rfl | rfl | rfl | rfl
  · exfalso
    obtain ⟨s', k, j, rfl, ew⟩ := round_exact ho (wv_can hf.b2 ..) t
    have hv : NumOk o s' k j := (round_vl ho (.inl rfl) t).1
    refine h ⟨k, j, ⟨.inl rfl, hv.e1, hv.e2, hv.c0, hv.c1, hv.c2⟩, ?_⟩
    have c0 := hn.c0
    have k0 := hv.c0
    rcases hv.s with rfl | rfl
    · rw [← ew, wo_sg0 ho.b2]
    · have w1 := wo_wv ho.b2 1 k j
      rw [ew, wo_sg0 hf.b2] at w1
      have g1 := mul_le_bp hf.b2 c0 e
      have g2 := mul_le_bp ho.b2 k0 j
      have z1 : ∀ (b e : Int), ((0 : Int) : Rat) * bp b e = 0 := fun b e => by simp
      rw [z1] at g1 g2
      have s1 : sg 1 = -1 := rfl
      rw [s1] at w1
      push_cast at w1
      rw [wo_sg0 hf.b2]
      have : (k : Rat) * bp o.b j = 0 := by
        refine Rat.le_antisymm ?_ g2
        have : -((k : Rat) * bp o.b j) = (c : Rat) * bp f.b e := by rw [w1]; grind
        grind
      grind
  · simp
  · simp
  · simp
/-! ### small formats -/
def smB (f : Fm) : Bool := fmB f && decide (-9 ≤ f.lo) && decide (f.hi ≤ 9) && decide (f.p ≤ 9)
structure Sm (f : Fm) : Prop where
  ok : FmOk f
  lo : -9 ≤ f.lo
  hi : f.hi ≤ 9
  p : f.p ≤ 9
theorem sm_of {f : Fm} (h : smB f = true) : Sm f := by
  unfold smB at h
  simp only [Bool.and_eq_true, decide_eq_true_eq] at h
  exact ⟨fmOk_of h.1.1.1, h.1.1.2, h.1.2, h.2⟩
theorem sm_low {f o : Fm} (hf : Sm f) (ho : Sm o) : bp o.b (-(55 : Int)) ≤ bp f.b f.lo := by
  have hb := hf.ok.b2
  have h36 := hf.ok.b36
  have lo := hf.lo
  have hi := hf.hi
  have lh := hf.ok.lh
  refine bp_ge_bd ho.ok.b2 (K := 55) (Fb.powP hb h36 (e := f.lo) (n := 9) (by omega)) ?_ (by omega)
  unfold powP
  split
  · exact powI_pos hb _
  · show (0 : Int) < 1
    decide
end VI

/-! PL30: the lesser and the greater one (k24, k29, k31). -/
namespace VI
open PySem
def ahB (f : Fm) (x y : Vl) : Bool := decide (rkV f x < rkV f y) || (!decide (rkV f y < rkV f x) && decide (sgV y < sgV x))
def lesB (f : Fm) (x y : Vl) : Bool := decide (rkV f x < rkV f y) || (decide (rkV f x = rkV f y) && decide (sgV y ≤ sgV x))
def leastV (f : Fm) (x y : Vl) : Vl := if (isNan x || isNan y) = true then .nan else if ahB f x y = true then x else y
def greatV (f : Fm) (x y : Vl) : Vl := if (isNan x || isNan y) = true then .nan else if ahB f x y = true then y else x
def lesV (f : Fm) (x y : Vl) (t : Bool) : Vl := if (isNan x || isNan y) = true then .nan else if (lesB f x y == t) = true then x else y
theorem isNan_of {v : Vl} (h : notNan v) : isNan v = false := by
  cases v with
  | nan => exact h.elim
  | _ => rfl
/-- one rank and one sign are one VALUE -/
theorem rank_one {f : Fm} (hf : FmOk f) {x y : Vl} (hx : VlOk f x) (hy : VlOk f y) (nx : notNan x) (ny : notNan y) (hr : rkV f x = rkV f y) (hs : sgV x = sgV y) : x = y := by
  cases x with
  | nan => exact nx.elim
  | inf s =>
    cases y with
    | nan => exact ny.elim
    | inf t =>
      have hs : s = t := hs
      rw [hs]
    | num t c e =>
      have h := rk_lt hf (show NumOk f t c e from hy)
      have : rkV f (.inf s) = -f.X ∨ rkV f (.inf s) = f.X := by
        show (if s = 1 then -f.X else f.X) = _ ∨ (if s = 1 then -f.X else f.X) = _
        split
        · exact .inl rfl
        · exact .inr rfl
      omega
  | num s c e =>
    cases y with
    | nan => exact ny.elim
    | inf t =>
      have h := rk_lt hf (show NumOk f s c e from hx)
      have : rkV f (.inf t) = -f.X ∨ rkV f (.inf t) = f.X := by
        show (if t = 1 then -f.X else f.X) = _ ∨ (if t = 1 then -f.X else f.X) = _
        split
        · exact .inl rfl
        · exact .inr rfl
      omega
    | num t c' e' =>
      have hs : s = t := hs
      subst hs
      have hx : NumOk f s c e := hx
      have hy : NumOk f s c' e' := hy
      have h1 := wo_rank hf hx hy
      have h2 := wo_rank hf hy hx
      have e0 : wo (wv f.b s c e) = wo (wv f.b s c' e') := by
        refine Rat.le_antisymm ?_ ?_
        · rw [← Rat.not_lt, h2]
          omega
        · rw [← Rat.not_lt, h1]
          omega
      rw [wo_wv hf.b2, wo_wv hf.b2] at e0
      have sne : sg s = 1 ∨ sg s = -1 := by
        unfold sg
        split
        · exact .inr rfl
        · exact .inl rfl
      have e1 : (c : Rat) * bp f.b e = (c' : Rat) * bp f.b e' := by
        rcases sne with z | z <;> rw [z] at e0 <;> push_cast at e0 <;> grind
      obtain ⟨rfl, rfl⟩ := num_uniq hf (c := c) (e := e) (c' := c') (e' := e') ⟨.inl rfl, hx.e1, hx.e2, hx.c0, hx.c1, hx.c2⟩ ⟨.inl rfl, hy.e1, hy.e2, hy.c0, hy.c1, hy.c2⟩ e1
      rfl
theorem les_eq {f : Fm} (hf : FmOk f) {x y : Vl} (hx : VlOk f x) (hy : VlOk f y) (nx : notNan x) (ny : notNan y) : ahB f x y = lesB f x y ∨ x = y := by
  unfold ahB lesB
  by_cases h1 : rkV f x < rkV f y
  · left
    simp [h1]
  · by_cases h2 : rkV f y < rkV f x
    · left
      have : ¬ rkV f x = rkV f y := by omega
      simp [h1, h2, this]
    · have h3 : rkV f x = rkV f y := by omega
      by_cases h4 : sgV x = sgV y
      · right
        exact rank_one hf hx hy nx ny h3 h4
      · left
        by_cases h5 : sgV y < sgV x
        · have : sgV y ≤ sgV x := by omega
          simp [h3, h5, this]
        · have : ¬ sgV y ≤ sgV x := by omega
          simp [h3, h5, this]
theorem les_least {f : Fm} (hf : FmOk f) {x y : Vl} (hx : VlOk f x) (hy : VlOk f y) : lesV f x y true = leastV f x y ∧ lesV f x y false = greatV f x y := by
  unfold lesV leastV greatV
  by_cases h : (isNan x || isNan y) = true
  · rw [if_pos h, if_pos h, if_pos h, if_pos h]
    exact ⟨rfl, rfl⟩
  · rw [if_neg h, if_neg h, if_neg h, if_neg h]
    have nx : notNan x := by
      cases x with
      | nan => exact absurd rfl h
      | _ => trivial
    have ny : notNan y := by
      cases y with
      | nan => exact absurd (by simp [isNan]) h
      | _ => trivial
    rcases les_eq hf hx hy nx ny with e | rfl
    · rw [e]
      cases lesB f x y <;> exact ⟨rfl, rfl⟩
    · constructor <;> split <;> split <;> rfl
theorem least_ok {f : Fm} {x y : Vl} (hx : VlOk f x) (hy : VlOk f y) : VlOk f (leastV f x y) ∧ VlOk f (greatV f x y) := by
  unfold leastV greatV
  constructor <;> split <;> first | trivial | (split <;> assumption)
theorem whole_special {f : Fm} (hf : FmOk f) {way : Str} {v w : Vl} {G : List Str} (hv : VlOk f v) (h : ∀ s c e, v = .num s c e → c = 0) (t : WholeTo f way v w G) : w = v ∧ G = [] := by
  cases v with
  | nan => exact t
  | inf s => exact t
  | num s c e =>
    have c0 := h s c e rfl
    subst c0
    have hn : NumOk f s 0 e := hv
    have el : e = f.lo := by
      rcases hn.c2 with q | q
      · exact q
      · have := hf.F_pos
        have q : f.F ≤ 0 := q
        omega
    subst el
    obtain ⟨G0, r, rfl⟩ := t
    have e0 : wv f.b s 0 f.lo = (0, 1) := by
      refine wo_eq (wv_can hf.b2 ..) (can_int 0) ?_
      rw [wo_wv hf.b2, wo_int]
      simp
    rw [e0, nq_int] at r ⊢
    rcases r with ⟨_, rfl, rfl⟩ | ⟨z, _⟩
    · exact ⟨rfl, by simp [inxG]⟩
    · exact absurd rfl z
/-- what orders a VALUE in the law -/
def kw (f : Fm) : Vl → P2
  | .num s c e => wv f.b s c e
  | _ => (0, 1)
def kD (f : Fm) (v : Vl) : D := .tuple [.int (plI v), dF (kw f v), .int (1 - sgV v)]
theorem kw_fra {f : Fm} (hf : FmOk f) {v : Vl} (hv : VlOk f v) : Fra 3200 (kw f v) := by
  cases v with
  | num s c e => exact wv_fra hf hv
  | _ => exact Fra.up fr01 (by decide)
theorem rk_inf {f : Fm} (hf : FmOk f) (s : Int) : 0 < f.X ∧ rkV f (.inf s) = if s = 1 then -f.X else f.X := by
  have := hf.XF
  have := hf.TF
  have := hf.F_pos
  have := hf.W_pos
  exact ⟨by omega, rfl⟩
theorem worth_rank {f : Fm} (hf : FmOk f) {s c e s' c' e' : Int} (hn : NumOk f s c e) (hn' : NumOk f s' c' e') :
    ((wv f.b s c e).1 * (wv f.b s' c' e').2 < (wv f.b s' c' e').1 * (wv f.b s c e).2 ↔ rkV f (.num s c e) < rkV f (.num s' c' e')) ∧ (wv f.b s c e = wv f.b s' c' e' ↔ rkV f (.num s c e) = rkV f (.num s' c' e')) := by
  have f1 := wv_fra hf hn
  have f2 := wv_fra hf hn'
  have a1 := wo_rank hf hn hn'
  have a2 := wo_rank hf hn' hn
  refine ⟨(below_iff f1.can f2.can).trans a1, ?_⟩
  constructor
  · intro z
    rw [z] at a1 a2
    have b1 := mt a1.mpr Rat.lt_irrefl
    have b2 := mt a2.mpr Rat.lt_irrefl
    omega
  · intro z
    refine wo_eq f1.can f2.can (Rat.le_antisymm ?_ ?_)
    · rw [← Rat.not_lt, a2]
      omega
    · rw [← Rat.not_lt, a1]
      omega
theorem les_key {f : Fm} (hf : FmOk f) {x y : Vl} (hx : VlOk f x) (hy : VlOk f y) (nx : notNan x) (ny : notNan y) :
    lesB f x y = (decide (plI x < plI y) || (decide (plI x = plI y) && (decide ((kw f x).1 * (kw f y).2 < (kw f y).1 * (kw f x).2) || (decide (kw f x = kw f y) && decide (1 - sgV x ≤ 1 - sgV y))))) := by
  unfold lesB
  cases x with
  | nan => exact nx.elim
  | inf s =>
    have hs : s = 0 ∨ s = 1 := hx
    obtain ⟨X0, r1⟩ := rk_inf hf s
    cases y with
    | nan => exact ny.elim
    | inf t =>
      have ht : t = 0 ∨ t = 1 := hy
      obtain ⟨_, r2⟩ := rk_inf hf t
      rw [r1, r2]
      rcases hs with rfl | rfl <;> rcases ht with rfl | rfl <;> simp [plI, kw, sgV] <;> omega
    | num t c e =>
      have h := rk_lt hf (show NumOk f t c e from hy)
      rw [r1]
      rcases hs with rfl | rfl <;> simp [plI] <;> omega
  | num s c e =>
    cases y with
    | nan => exact ny.elim
    | inf t =>
      have ht : t = 0 ∨ t = 1 := hy
      obtain ⟨X0, r1⟩ := rk_inf hf t
      have h := rk_lt hf (show NumOk f s c e from hx)
      rw [r1]
      rcases ht with rfl | rfl <;> simp [plI] <;> omega
    | num t c' e' =>
      obtain ⟨h1, h2⟩ := worth_rank hf (show NumOk f s c e from hx) (show NumOk f t c' e' from hy)
      show _ = (decide ((0 : Int) < 0) || (decide ((0 : Int) = 0) && (decide ((wv f.b s c e).1 * (wv f.b t c' e').2 < (wv f.b t c' e').1 * (wv f.b s c e).2) || (decide (wv f.b s c e = wv f.b t c' e') && decide (1 - s ≤ 1 - t)))))
      have g1 : decide ((wv f.b s c e).1 * (wv f.b t c' e').2 < (wv f.b t c' e').1 * (wv f.b s c e).2) = decide (rkV f (.num s c e) < rkV f (.num t c' e')) := decide_eq_decide.mpr h1
      have g2 : decide (wv f.b s c e = wv f.b t c' e') = decide (rkV f (.num s c e) = rkV f (.num t c' e')) := decide_eq_decide.mpr h2
      rw [g1, g2]
      show (_ || (_ && decide (t ≤ s))) = _
      have : decide (t ≤ s) = decide (1 - s ≤ 1 - t) := decide_eq_decide.mpr (by omega)
      rw [this]
      simp
end VI

/-! PL31: when a format lies in another one (k12). -/
namespace VI
open PySem
def Within (f o : Fm) : Prop := ∀ c e, NumOk f 0 c e → HasN o (wv f.b 0 c e)
theorem bp_nn {b : Int} (hb : 2 ≤ b) (n : Nat) (e : Int) : ((b ^ n : Int) : Rat) * bp b e = bp b (e + n) := (bp_up hb e n).symm
/-- a multiple of a unit, short enough, is a number's worth -/
theorem hasN_of {o : Fm} (ho : FmOk o) {x : P2} {K : Nat} (hx : Fb K x) (hK : K ≤ 9700) {m E : Int} {P : Nat} (m0 : 0 ≤ m) (hm : m < o.b ^ P) (e : wo x = (m : Rat) * bp o.b E) (hE : o.lo ≤ E) (hP : (P : Int) ≤ o.p) (hh : E + P ≤ o.p + o.hi) : HasN o x := by
  have hb := ho.b2
  have p2 := ho.p2
  have x0 : 0 ≤ x.1 := by
    have h1 := mul_le_bp hb m0 E
    rw [← e, show ((0 : Int) : Rat) * bp o.b E = 0 by simp] at h1
    apply Int.not_lt.mp
    intro z
    have : wo x < wo (0, 1) := (lt_iff (p := x) (q := (0, 1)) hx.pos (by decide)).mp (by show x.1 * 1 < 0 * x.2; omega)
    rw [wo01] at this
    exact absurd (Std.lt_of_le_of_lt h1 this) Rat.lt_irrefl
  obtain ⟨c, j, sd, hp, _⟩ := part_exists ho hx hK x0
  have jE : j ≤ E ∧ j ≤ o.hi := by
    rcases hp.cF with z | z
    · have := ho.lh
      omega
    · have h1 : bp o.b (j + (o.p - 1)) ≤ wo x := by
        rw [← F_bp ho]
        exact Rat.le_trans (mul_le_bp hb z j) hp.le
      have h2 : wo x < bp o.b (E + P) := by
        rw [e, ← bp_nn hb]
        exact mul_lt_bp hb hm E
      have := bp_cmp hb (Std.lt_of_le_of_lt h1 h2)
      omega
  have ex : wo x = ((m * o.b ^ (E - j).toNat : Int) : Rat) * bp o.b j := by
    rw [e, bp_split hb jE.1]
    push_cast
    grind
  have h1 := hp.le
  have h2 := hp.lt
  rw [ex] at h1 h2
  have g1 : c ≤ m * o.b ^ (E - j).toNat := Int.not_lt.mp fun z => absurd (Std.lt_of_lt_of_le (mul_lt_bp hb z j) h1) Rat.lt_irrefl
  have g2 : m * o.b ^ (E - j).toNat < c + 1 := Int.not_le.mp fun z => absurd (Std.lt_of_lt_of_le h2 (mul_le_bp hb z j)) Rat.lt_irrefl
  refine ⟨c, j, ⟨.inl rfl, hp.e0, jE.2, hp.c0, hp.c1, hp.cF⟩, ?_⟩
  rw [ex, show c = m * o.b ^ (E - j).toNat by omega]
/-- what a number with no factor to spare asks -/
theorem hasN_only {o : Fm} (ho : FmOk o) {x : P2} {m E : Int} {P : Nat} (nd : ¬ o.b ∣ m) (hm : o.b ^ P ≤ m) (e : wo x = (m : Rat) * bp o.b E) (h : HasN o x) : (P : Int) + 1 ≤ o.p ∧ o.lo ≤ E ∧ E + (P + 1) ≤ o.p + o.hi := by
  have hb := ho.b2
  have p2 := ho.p2
  obtain ⟨c, j, hn, hc⟩ := h
  have j1 := hn.e1
  have j2 := hn.e2
  have c1 : c < o.T := hn.c1
  rw [e] at hc
  have jE : j ≤ E := by
    apply Int.not_lt.mp
    intro z
    rw [bp_split hb (show E ≤ j by omega)] at hc
    have : m = c * o.b ^ (j - E).toNat := by
      refine (bp_cancel hb (e := E) ?_).symm
      rw [← hc]
      push_cast
      grind
    refine nd ?_
    rw [this, show (j - E).toNat = (j - E - 1).toNat + 1 by omega, Int.pow_succ, ← Int.mul_assoc]
    exact Int.dvd_mul_left _ _
  have hlt : bp o.b (E + P) < bp o.b (j + o.p) := by
    rw [← T_bp ho, ← bp_nn hb]
    refine Std.lt_of_le_of_lt (mul_le_bp hb hm E) ?_
    rw [← hc]
    exact mul_lt_bp hb c1 j
  have := bp_cmp hb hlt
  omega
theorem bp_pow {b : Int} (hb : 2 ≤ b) {n : Nat} (hn : 1 ≤ n) (e : Int) : bp (b ^ n) e = bp b (n * e) := by
  have hbn : 2 ≤ b ^ n := by
    have h1 := powI_pos hb (n - 1)
    have h2 : b ^ n = b ^ (n - 1) * b := by
      rw [← Int.pow_succ]
      congr 1
      omega
    have := Int.mul_le_mul (show (1 : Int) ≤ b ^ (n - 1) by omega) hb (by omega) (by omega)
    omega
  rcases Int.le_total 0 e with h | h
  · obtain ⟨k, rfl⟩ := Int.eq_ofNat_of_zero_le h
    rw [bp_nat, show (n : Int) * (k : Int) = ((n * k : Nat) : Int) by push_cast; rfl, bp_nat, ← Int.pow_mul]
  · obtain ⟨k, rfl⟩ : ∃ k : Nat, e = -(k : Int) := ⟨(-e).toNat, by omega⟩
    rw [bp_negn, show (n : Int) * -(k : Int) = -((n * k : Nat) : Int) by push_cast; grind, bp_negn, ← Int.pow_mul]
theorem T_num {f : Fm} (hf : FmOk f) {e : Int} (h1 : f.lo ≤ e) (h2 : e ≤ f.hi) : NumOk f 0 (f.T - 1) e := by
  have TF := hf.TF
  have F0 := hf.F_pos
  have W0 := hf.W_pos
  exact ⟨.inl rfl, h1, h2, by omega, by show f.T - 1 < f.T; omega, .inr (by show f.F ≤ f.T - 1; omega)⟩
theorem not_dvd_pred {b : Int} (hb : 2 ≤ b) {n : Nat} (hn : 1 ≤ n) : ¬ b ∣ b ^ n - 1 := by
  intro h
  have : b ∣ b ^ n := by
    rw [show n = n - 1 + 1 by omega, Int.pow_succ]
    exact Int.dvd_mul_left _ _
  have := Int.dvd_sub this h
  rw [show b ^ n - (b ^ n - 1) = 1 by omega] at this
  have := Int.le_of_dvd (by decide) this
  omega
theorem pow_pred {b : Int} (hb : 2 ≤ b) {n : Nat} (hn : 1 ≤ n) : b ^ (n - 1) ≤ b ^ n - 1 := by
  have h1 := powI_pos hb (n - 1)
  have h2 : b ^ n = b ^ (n - 1) * b := by
    rw [← Int.pow_succ]
    congr 1
    omega
  have := Int.mul_le_mul_of_nonneg_left hb (show 0 ≤ b ^ (n - 1) by omega)
  omega
/-- bases that are powers of one another -/
theorem within_pow {f o : Fm} (hf : FmOk f) (ho : FmOk o) {n : Nat} (hn : 1 ≤ n) (hb : f.b = o.b ^ n) : Within f o ↔ (n : Int) * f.p ≤ o.p ∧ o.lo ≤ n * f.lo ∧ n * f.hi + n * f.p ≤ o.p + o.hi := by
  have ob := ho.b2
  have p2 := hf.p2
  have lh := hf.lh
  have eT : f.T = o.b ^ (n * f.p.toNat) := by
    show f.b ^ f.p.toNat = _
    rw [hb, ← Int.pow_mul]
  have eP : ((n * f.p.toNat : Nat) : Int) = n * f.p := by
    rw [Int.natCast_mul, show ((f.p.toNat : Nat) : Int) = f.p by omega]
  have pos : 1 ≤ n * f.p.toNat := Nat.mul_pos (by omega) (by omega)
  have wx : ∀ c e, wo (wv f.b 0 c e) = (c : Rat) * bp o.b (n * e) := fun c e => by
    rw [wo_sg0 hf.b2, hb, bp_pow ob hn]
  constructor
  · intro h
    have g : ∀ e, f.lo ≤ e → e ≤ f.hi → (((n * f.p.toNat - 1 : Nat)) : Int) + 1 ≤ o.p ∧ o.lo ≤ n * e ∧ n * e + (((n * f.p.toNat - 1 : Nat)) + 1) ≤ o.p + o.hi := fun e h1 h2 => by
      have nd : ¬ o.b ∣ f.T - 1 := by
        rw [eT]
        exact not_dvd_pred ob pos
      have hm : o.b ^ (n * f.p.toNat - 1) ≤ f.T - 1 := by
        rw [eT]
        exact pow_pred ob pos
      exact hasN_only ho nd hm (wx _ _) (h _ _ (T_num hf h1 h2))
    have a := g f.lo (Int.le_refl _) lh
    have b := g f.hi lh (Int.le_refl _)
    rw [show (((n * f.p.toNat - 1 : Nat)) : Int) + 1 = n * f.p by omega] at a b
    exact ⟨a.1, a.2.1, b.2.2⟩
  · rintro ⟨h1, h2, h3⟩ c e hc
    have e1 := hc.e1
    have e2 := hc.e2
    have c1 : c < f.T := hc.c1
    have n1 : (n : Int) * f.lo ≤ n * e := Int.mul_le_mul_of_nonneg_left e1 (by omega)
    have n2 : (n : Int) * e ≤ n * f.hi := Int.mul_le_mul_of_nonneg_left e2 (by omega)
    refine hasN_of ho (wv_fra hf hc).fb (by decide) hc.c0 (P := n * f.p.toNat) (by rw [← eT]; exact c1) (wx c e) (by omega) (by omega) (by omega)
theorem within_self {f : Fm} (hf : FmOk f) : Within f f := fun c e hn => ⟨c, e, hn, (wo_sg0 hf.b2 c e).symm⟩
/-- small formats -/
theorem fm_small {f : Fm} (h1 : 2 ≤ f.b) (h2 : f.b ≤ 36) (h3 : 2 ≤ f.p) (h4 : f.p ≤ 100) (h5 : f.lo ≤ f.hi) (h6 : -200 ≤ f.lo) (h7 : f.hi ≤ 200) : FmOk f := by
  have bb : Bd 6 f.b := by unfold Bd; omega
  exact ⟨h1, h2, h3, by omega, h5, by omega, by omega, (bb.pow _).up (by omega), (bb.pow _).up (by omega), (bb.pow _).up (by omega)⟩
/-- how far down is looked -/
def LowOk (f o : Fm) : Prop := ∃ L : Nat, bp o.b (-(L : Int)) ≤ bp f.b f.lo ∧ PK o.b (-2 * L)
theorem low_small {f o : Fm} (hf : FmOk f) (ho : FmOk o) (h1 : -60 ≤ f.lo) (h2 : f.lo ≤ 60) : LowOk f o := by
  refine ⟨361, bp_ge_bd ho.b2 (K := 361) (Fb.powP hf.b2 hf.b36 (e := f.lo) (n := 60) (by omega)) ?_ (by omega), by decide, .inl (by decide)⟩
  unfold powP
  split
  · exact powI_pos hf.b2 _
  · show (0 : Int) < 1
    decide
theorem low_same {f o : Fm} (hf : FmOk f) (h : f.b = o.b) : LowOk f o := by
  have l := hf.l
  have hi := hf.h
  have lh := hf.lh
  have ob : 2 ≤ o.b := by rw [← h]; exact hf.b2
  refine ⟨f.lo.natAbs, ?_, ?_, ?_⟩
  · rw [h]
    exact bp_le ob (by omega)
  · omega
  · right
    have b1 := hf.bl
    rw [h] at b1
    rw [show (-(-2 * (f.lo.natAbs : Int))).toNat = f.lo.natAbs + f.lo.natAbs by omega, Int.pow_add]
    exact (b1.mul b1).up (by decide)
/-- integers of one base in another one -/
theorem within_int {f o : Fm} (hf : FmOk f) (ho : FmOk o) (h1 : f.lo = 0) (h2 : f.hi = 0) (h3 : o.lo ≤ 0) (h4 : 0 ≤ o.hi) (he : f.b % 2 = 0) (he' : o.b % 2 = 0) : Within f o ↔ f.T ≤ o.T := by
  have ob := ho.b2
  have op2 := ho.p2
  have wx : ∀ c e, NumOk f 0 c e → wo (wv f.b 0 c e) = (c : Rat) * bp o.b 0 := fun c e hn => by
    have e1 := hn.e1
    have e2 := hn.e2
    have : e = 0 := by omega
    subst this
    rw [wo_sg0 hf.b2, bp_zero hf.b2, bp_zero ob]
  constructor
  · intro h
    apply Int.not_lt.mp
    intro z
    have t1 := (T_even hf he).1
    have t2 := (T_even ho he').1
    have T0 := ho.XF
    have F2 := ho.F2
    have TF := ho.TF
    have W0 := ho.W_pos
    have hn : NumOk f 0 (o.T + 1) 0 := ⟨.inl rfl, by omega, by omega, by omega, by show o.T + 1 < f.T; omega, .inl h1.symm⟩
    have nd : ¬ o.b ∣ o.T + 1 := by
      intro d
      have : o.b ∣ o.T := ⟨o.F, ho.T_eq⟩
      have := Int.dvd_sub d this
      rw [show o.T + 1 - o.T = 1 by omega] at this
      have := Int.le_of_dvd (by decide) this
      omega
    have q := hasN_only ho nd (P := o.p.toNat) (by show o.T ≤ o.T + 1; omega) (wx _ _ hn) (h _ _ hn)
    omega
  · intro h c e hn
    have c1 : c < f.T := hn.c1
    refine hasN_of ho (wv_fra hf hn).fb (by decide) hn.c0 (P := o.p.toNat) (by show c < o.T; omega) (wx c e hn) h3 (by omega) (by omega)
/-- a factor that the other base lacks -/
theorem not_within {f o : Fm} (hf : FmOk f) (ho : FmOk o) {q : Nat} (h1 : f.lo < 0) (hq : (q : Int) ∣ f.b) (hc : Nat.Coprime o.b.natAbs q) (q2 : 2 ≤ q) : ¬ Within f o := by
  intro h
  have fb := hf.b2
  have ob := ho.b2
  have F2 := hf.F2
  have TF := hf.TF
  have W0 := hf.W_pos
  have hn : NumOk f 0 1 f.lo := ⟨.inl rfl, Int.le_refl _, hf.lh, by decide, by show 1 < f.T; omega, .inl rfl⟩
  obtain ⟨c, j, hk, e⟩ := h _ _ hn
  rw [wo_sg0 fb] at e
  obtain ⟨n, hn1, en⟩ : ∃ n : Nat, 1 ≤ n ∧ f.lo = -(n : Int) := ⟨(-f.lo).toNat, by omega, by omega⟩
  have pf := powI_pos fb n
  have nz : ((f.b ^ n : Int) : Rat) ≠ 0 := rat_ne (by omega)
  rw [en, bp_negn] at e
  have e1 : ((c * f.b ^ n : Int) : Rat) * bp o.b j = 1 := by
    push_cast at e nz ⊢
    have : (c : Rat) * bp o.b j * ((f.b : Rat) ^ n) = 1 := by
      rw [e]
      grind
    grind
  have qf : (q : Int) ∣ c * f.b ^ n := by
    rw [show n = n - 1 + 1 by omega, Int.pow_succ, ← Int.mul_assoc]
    exact Int.dvd_trans hq (Int.dvd_mul_left _ _)
  rcases Int.le_total 0 j with z | z
  · obtain ⟨k, rfl⟩ := Int.eq_ofNat_of_zero_le z
    rw [bp_nat] at e1
    have e2 : c * f.b ^ n * o.b ^ k = 1 := by exact_mod_cast e1
    have : (q : Int) ∣ 1 := by
      rw [← e2]
      exact Int.dvd_mul_of_dvd_left qf
    have := Int.le_of_dvd (by decide) this
    omega
  · obtain ⟨k, rfl⟩ : ∃ k : Nat, j = -(k : Int) := ⟨(-j).toNat, by omega⟩
    rw [bp_negn] at e1
    have pk := powI_pos ob k
    have nk : ((o.b ^ k : Int) : Rat) ≠ 0 := rat_ne (by omega)
    have e2 : c * f.b ^ n = o.b ^ k := by
      have : ((c * f.b ^ n : Int) : Rat) = ((o.b ^ k : Int) : Rat) := by grind
      exact_mod_cast this
    rw [e2] at qf
    have d1 : q ∣ o.b.natAbs ^ k := by
      have := Int.natAbs_dvd_natAbs.mpr qf
      rwa [Int.natAbs_natCast, Int.natAbs_pow] at this
    have cp : Nat.Coprime (o.b.natAbs ^ k) q := Nat.Coprime.pow_left k hc
    have : q ∣ 1 := by
      rw [← cp]
      exact Nat.dvd_gcd d1 (Nat.dvd_refl _)
    have := Nat.le_of_dvd (by decide) this
    omega
theorem odd_five (r : Nat) : (5 : Int) ^ r % 2 = 1 := by
  induction r with
  | zero => rfl
  | succ r ih => rw [Int.pow_succ, Int.mul_emod, ih]; rfl
/-- base 2 in a power of 2 -/
theorem within_two {f o : Fm} (hf : FmOk f) (ho : FmOk o) {n : Nat} (hn : 1 ≤ n) (hb : f.b = 2) (hob : o.b = 2 ^ n) :
    Within f o ↔ ∀ e, f.lo ≤ e → e ≤ f.hi → o.lo ≤ e / n ∧ (e + f.p - 1) / n - e / n + 1 ≤ o.p ∧ (e + f.p - 1) / n + 1 ≤ o.p + o.hi := by
  have ob := ho.b2
  have p2 := hf.p2
  have n0 : (0 : Int) < n := by omega
  have eT : f.T = 2 ^ f.p.toNat := by
    show f.b ^ f.p.toNat = _
    rw [hb]
  -- the parts of an exponent
  have parts : ∀ e : Int, ∃ (E : Int) (r P : Nat), E = e / n ∧ e = n * E + r ∧ r < n ∧ (P : Int) = (e + f.p - 1) / n - e / n ∧ n * P ≤ f.p.toNat - 1 + r ∧ f.p.toNat + r ≤ n * (P + 1) ∧ E + P = (e + f.p - 1) / n := fun e => by
    have h1 := Int.emod_add_mul_ediv e n
    have h2 := Int.emod_nonneg e (show (n : Int) ≠ 0 by omega)
    have h3 := Int.emod_lt_of_pos e n0
    have h4 := Int.emod_add_mul_ediv (e + f.p - 1) n
    have h5 := Int.emod_nonneg (e + f.p - 1) (show (n : Int) ≠ 0 by omega)
    have h6 := Int.emod_lt_of_pos (e + f.p - 1) n0
    have h7 : e / n ≤ (e + f.p - 1) / n := Int.ediv_le_ediv n0 (by omega)
    obtain ⟨r, hr⟩ := Int.eq_ofNat_of_zero_le h2
    obtain ⟨P, hP⟩ := Int.eq_ofNat_of_zero_le (show 0 ≤ (e + f.p - 1) / n - e / n by omega)
    have eP : (n : Int) * ((e + f.p - 1) / n) = n * (e / n) + n * P := by
      rw [← Int.mul_add]
      congr 1
      omega
    refine ⟨e / n, r, P, rfl, by omega, by omega, hP.symm, ?_, ?_, by omega⟩
    · have : ((n * P : Nat) : Int) ≤ f.p - 1 + r := by
        push_cast
        omega
      omega
    · have : f.p + r ≤ ((n * (P + 1) : Nat) : Int) := by
        push_cast
        rw [Int.mul_add]
        omega
      omega
  have wx : ∀ (c e E : Int) (r : Nat), e = n * E + r → wo (wv f.b 0 c e) = ((c * 2 ^ r : Int) : Rat) * bp o.b E := fun c e E r he => by
    rw [wo_sg0 hf.b2, hb, hob, bp_pow (by decide) hn, he, ← bp_nn (by decide)]
    push_cast
    grind
  constructor
  · intro h e h1 h2
    obtain ⟨E, r, P, e1, e2, e3, e4, e5, e6, e7⟩ := parts e
    have nd : ¬ o.b ∣ (f.T - 1) * 2 ^ r := by
      intro d
      rw [hob, eT] at d
      have d2 : (2 : Int) ^ (r + 1) ∣ (2 ^ f.p.toNat - 1) * 2 ^ r := Int.dvd_trans ⟨2 ^ (n - (r + 1)), by rw [← Int.pow_add]; congr 1; omega⟩ d
      obtain ⟨k, hk⟩ := d2
      have : (2 : Int) ^ f.p.toNat - 1 = 2 * k := by
        have p0 := powI_pos (b := 2) (by decide) r
        refine Int.eq_of_mul_eq_mul_right (a := 2 ^ r) (by omega) ?_
        rw [hk, Int.pow_succ]
        grind
      exact not_dvd_pred (b := 2) (by decide) (n := f.p.toNat) (by omega) ⟨k, this⟩
    have hm : o.b ^ P ≤ (f.T - 1) * 2 ^ r := by
      rw [hob, eT, ← Int.pow_mul]
      have a1 := pow_le_pow (b := 2) (by decide) e5
      have a2 := pow_pred (b := 2) (by decide) (n := f.p.toNat) (by omega)
      have a3 := Int.mul_le_mul_of_nonneg_right a2 (show (0 : Int) ≤ 2 ^ r by have := powI_pos (b := 2) (by decide) r; omega)
      rw [Int.pow_add] at a1
      omega
    have q := hasN_only ho nd hm (wx _ _ _ _ e2) (h _ _ (T_num hf h1 h2))
    rw [← e4, ← e7, ← e1]
    omega
  · intro h c e hc
    obtain ⟨E, r, P, e1, e2, e3, e4, e5, e6, e7⟩ := parts e
    have q := h e hc.e1 hc.e2
    rw [← e4, ← e7, ← e1] at q
    have c1 : c < f.T := hc.c1
    have c0 := hc.c0
    have pr := powI_pos (b := 2) (by decide) r
    refine hasN_of ho (wv_fra hf hc).fb (by decide) (Int.mul_nonneg c0 (by omega)) (P := P + 1) ?_ (wx c e E r e2) q.1 (by omega) (by omega)
    have a1 := pow_le_pow (b := 2) (by decide) e6
    rw [hob, ← Int.pow_mul]
    rw [Int.pow_add, ← eT] at a1
    have a2 : c * 2 ^ r < f.T * 2 ^ r := Int.mul_lt_mul_of_pos_right c1 pr
    omega
theorem bp_ten (k : Nat) : bp 2 (-(k : Int)) = ((5 ^ k : Int) : Rat) * bp 10 (-(k : Int)) := by
  rw [bp_negn, bp_negn]
  have e : (10 : Int) ^ k = 2 ^ k * 5 ^ k := by rw [← Int.mul_pow]; rfl
  have n2 : ((2 ^ k : Int) : Rat) ≠ 0 := rat_ne (by have := powI_pos (b := 2) (by decide) k; omega)
  have n5 : ((5 ^ k : Int) : Rat) ≠ 0 := rat_ne (by have := powI_pos (b := 5) (by decide) k; omega)
  rw [e]
  push_cast at n2 n5 ⊢
  grind
theorem pow25 (k : Nat) : (2 : Int) ^ k ≤ 5 ^ k := by
  induction k with
  | zero => decide
  | succ k ih =>
    have p := powI_pos (b := 2) (by decide) k
    rw [Int.pow_succ, Int.pow_succ]
    omega
/-- base 2 with parts of 1 in base 10 -/
theorem within_ten {f o : Fm} (hf : FmOk f) (ho : FmOk o) {r : Nat} (hb : f.b = 2) (hob : o.b = 10) (hlo : f.lo = -(r : Int)) (hhi : f.hi ≤ r) (olo : o.lo ≤ -(r : Int)) (ohi : 0 ≤ o.hi) : Within f o ↔ 5 ^ r * (f.T - 1) < o.T := by
  have ob := ho.b2
  have p2 := hf.p2
  have op2 := ho.p2
  have lh := hf.lh
  have TF := hf.TF
  have F0 := hf.F_pos
  have W0 := hf.W_pos
  have eT : f.T = 2 ^ f.p.toNat := by
    show f.b ^ f.p.toNat = _
    rw [hb]
  have wx : ∀ (c : Int) (k : Nat), wo (wv f.b 0 c (-(k : Int))) = ((c * 5 ^ k : Int) : Rat) * bp o.b (-(k : Int)) := fun c k => by
    rw [wo_sg0 hf.b2, hb, hob, bp_ten]
    push_cast
    grind
  constructor
  · intro h
    apply Int.not_le.mp
    intro z
    have hn := T_num hf (Int.le_refl _) lh
    rw [hlo] at hn
    have nd : ¬ o.b ∣ (f.T - 1) * 5 ^ r := by
      rw [hob]
      intro d
      have d2 : (2 : Int) ∣ (f.T - 1) * 5 ^ r := Int.dvd_trans (by decide) d
      have t2 := (T_even hf (by rw [hb]; rfl)).1
      have o5 := odd_five r
      have := Int.emod_eq_zero_of_dvd d2
      rw [Int.mul_emod, o5, show (f.T - 1) % 2 = 1 by omega] at this
      exact absurd this (by decide)
    have q := hasN_only ho nd (P := o.p.toNat) (by show o.T ≤ _; rw [Int.mul_comm]; exact z) (wx _ _) (h _ _ hn)
    omega
  · intro h c e hc
    have e1 := hc.e1
    have e2 := hc.e2
    have c1 : c < f.T := hc.c1
    have c0 := hc.c0
    have mono : ∀ k : Nat, k ≤ r → c * 5 ^ k < o.T := fun k hk => by
      have a1 := pow_le_pow (b := 5) (by decide) hk
      have p5 := powI_pos (b := 5) (by decide) k
      have a2 : c * 5 ^ k ≤ (f.T - 1) * 5 ^ k := Int.mul_le_mul_of_nonneg_right (by omega) (by omega)
      have a3 : (f.T - 1) * 5 ^ k ≤ (f.T - 1) * 5 ^ r := Int.mul_le_mul_of_nonneg_left a1 (by omega)
      rw [Int.mul_comm _ (5 ^ r)] at a3
      omega
    rcases Int.lt_or_le e 0 with z | z
    · obtain ⟨k, rfl⟩ : ∃ k : Nat, e = -(k : Int) := ⟨(-e).toNat, by omega⟩
      refine hasN_of ho (wv_fra hf hc).fb (by decide) (Int.mul_nonneg c0 (by have := powI_pos (b := 5) (by decide) k; omega)) (P := o.p.toNat) (mono k (by omega)) (wx c k) (by omega) (by omega) (by omega)
    · obtain ⟨k, rfl⟩ := Int.eq_ofNat_of_zero_le z
      have w0 : wo (wv f.b 0 c (k : Int)) = ((c * 2 ^ k : Int) : Rat) * bp o.b 0 := by
        rw [wo_sg0 hf.b2, hb, bp_nat, bp_zero ob]
        push_cast
        grind
      have le25 := pow25 k
      have p2k := powI_pos (b := 2) (by decide) k
      have m1 := mono k (by omega)
      have m2 : c * 2 ^ k ≤ c * 5 ^ k := Int.mul_le_mul_of_nonneg_left le25 c0
      refine hasN_of ho (wv_fra hf hc).fb (by decide) (Int.mul_nonneg c0 (by omega)) (P := o.p.toNat) (by show c * 2 ^ k < o.T; omega) w0 (by omega) (by omega) (by omega)
end VI

/-! PL32: operations among themselves (k31). -/
namespace VI
open PySem
def ngP (x : P2) : P2 := (-x.1, x.2)
theorem wo_ng (x : P2) : wo (ngP x) = - wo x := by
  unfold wo ngP
  show ((-x.1 : Int) : Rat) / (x.2 : Rat) = -((x.1 : Rat) / (x.2 : Rat))
  rw [Rat.div_def, Rat.div_def]
  push_cast
  grind
theorem can_ng {x : P2} (h : Can x) : Can (ngP x) := can_neg h
theorem add_ng {x y : P2} (hx : Can x) (hy : Can y) : addP (ngP x) (ngP y) = ngP (addP x y) := by
  refine wo_eq (can_add (can_ng hx) (can_ng hy)) (can_ng (can_add hx hy)) ?_
  rw [wo_add (can_ng hx) (can_ng hy), wo_ng, wo_ng, wo_ng, wo_add hx hy]
  grind
theorem mul_ng {x y : P2} (hx : Can x) (hy : Can y) : mulP (ngP x) y = ngP (mulP x y) := by
  refine wo_eq (can_mul (can_ng hx) hy) (can_ng (can_mul hx hy)) ?_
  rw [wo_mul (can_ng hx) hy, wo_ng, wo_ng, wo_mul hx hy]
  grind
theorem div_ng {x y : P2} (hx : Can x) (hy : Can y) (h0 : y.1 ≠ 0) : divP x (ngP y) = ngP (divP x y) := by
  have h1 : (ngP y).1 ≠ 0 := by show -y.1 ≠ 0; omega
  refine wo_eq (can_div hx h1) (can_ng (can_div hx h0)) ?_
  rw [wo_div hx (can_ng hy) h1, wo_ng, wo_ng, wo_div hx hy h0, Rat.div_def, Rat.div_def]
  have : wo y ≠ 0 := wo_ne hy h0
  have e : (-wo y)⁻¹ = -(wo y)⁻¹ := by grind
  rw [e]
  grind
theorem one_can : Can ((1, 1) : P2) := can_int 1
theorem wo11 : wo ((1, 1) : P2) = 1 := by
  unfold wo
  decide +kernel
theorem add_z {x : P2} (hx : Can x) : addP x (0, 1) = x := wo_eq (can_add hx can01) hx (by rw [wo_add hx can01, wo01]; grind)
theorem mul_o {x : P2} (hx : Can x) : mulP x (1, 1) = x := wo_eq (can_mul hx one_can) hx (by rw [wo_mul hx one_can, wo11]; grind)
theorem div_o {x : P2} (hx : Can x) : divP x (1, 1) = x := wo_eq (can_div hx (by decide)) hx (by rw [wo_div hx one_can (by decide), wo11]; grind)
theorem mul_z {x : P2} (hx : Can x) : mulP x (0, 1) = (0, 1) := wo_eq (can_mul hx can01) can01 (by rw [wo_mul hx can01, wo01]; grind)
/-- the opposite of a rounded one -/
theorem round_opp {f : Fm} {way : Str} {x : P2} {s : Int} {w : Vl} {G : List Str} (h : RoundTo f way x s w G) : RoundTo f (oppW way) (ngP x) (1 - s) (oppV w) G := by
  rcases h with ⟨z, rfl, rfl⟩ | ⟨z, c', e', sd, hp, rfl, rfl⟩
  · exact .inl ⟨by show -x.1 = 0; omega, rfl, rfl⟩
  · have a : absP (ngP x) = absP x := by
      unfold absP ngP
      rw [Int.natAbs_neg]
    have sF : sgF (ngP x) = 1 - sgF x := by
      unfold sgF ngP
      show (if -x.1 < 0 then (1 : Int) else 0) = _
      split <;> split <;> omega
    have o1 := opp_fin (f := f) (way := way) (sgF01 x) c' e' sd
    refine .inr ⟨by show -x.1 ≠ 0; omega, c', e', sd, by rw [a]; exact hp, ?_, ?_⟩
    · rw [sF]
      exact o1.1.symm
    · rw [sF]
      exact o1.2.symm
theorem round_sign {f : Fm} {way : Str} {x : P2} {s s' : Int} {w : Vl} {G : List Str} (z : x.1 ≠ 0) (h : RoundTo f way x s w G) : RoundTo f way x s' w G := by
  rcases h with ⟨z', _⟩ | h
  · exact absurd z' z
  · exact .inr h
theorem wv_ng (b s c e : Int) (hs : s = 0 ∨ s = 1) : wv b (1 - s) c e = ngP (wv b s c e) := wv_opp b s c e hs
theorem prodS_l {s t : Int} (hs : s = 0 ∨ s = 1) (ht : t = 0 ∨ t = 1) : prodS (1 - s) t = 1 - prodS s t := by
  rcases hs with rfl | rfl <;> rcases ht with rfl | rfl <;> decide
theorem prodS_r {s t : Int} (hs : s = 0 ∨ s = 1) (ht : t = 0 ∨ t = 1) : prodS s (1 - t) = 1 - prodS s t := by
  rcases hs with rfl | rfl <;> rcases ht with rfl | rfl <;> decide
theorem out0_opp {v w : Vl} {F G : List Str} (h : Out0 v F w G) : Out0 (oppV v) F (oppV w) G := ⟨by rw [h.1], h.2⟩
theorem prod_opp {f : Fm} (hf : FmOk f) {way : Str} {x y w : Vl} {G : List Str} (hx : VlOk f x) (hy : VlOk f y) (h : ProdTo f way x y w G) : ProdTo f (oppW way) (oppV x) y (oppV w) G := by
  cases x with
  | nan => exact out0_opp (v := .nan) h
  | inf s =>
    have hs : s = 0 ∨ s = 1 := hx
    cases y with
    | nan => exact out0_opp (v := .nan) h
    | inf t =>
      have ht : t = 0 ∨ t = 1 := hy
      show Out0 (.inf (prodS (1 - s) t)) [] _ _
      rw [prodS_l hs ht]
      exact out0_opp (v := .inf (prodS s t)) h
    | num t c e =>
      have ht : t = 0 ∨ t = 1 := NumOk.s hy
      have h : (if c = 0 then Out0 .nan ["invalid"] else Out0 (.inf (prodS s t)) []) w G := h
      show (if c = 0 then Out0 .nan ["invalid"] else Out0 (.inf (prodS (1 - s) t)) []) _ _
      rw [prodS_l hs ht]
      split at h
      · rename_i z
        rw [if_pos z]
        exact out0_opp (v := .nan) h
      · rename_i z
        rw [if_neg z]
        exact out0_opp (v := .inf (prodS s t)) h
  | num s c e =>
    have hn : NumOk f s c e := hx
    have hs := hn.s
    cases y with
    | nan => exact out0_opp (v := .nan) h
    | inf t =>
      have ht : t = 0 ∨ t = 1 := hy
      have h : (if c = 0 then Out0 .nan ["invalid"] else Out0 (.inf (prodS s t)) []) w G := h
      show (if c = 0 then Out0 .nan ["invalid"] else Out0 (.inf (prodS (1 - s) t)) []) _ _
      rw [prodS_l hs ht]
      split at h
      · rename_i z
        rw [if_pos z]
        exact out0_opp (v := .nan) h
      · rename_i z
        rw [if_neg z]
        exact out0_opp (v := .inf (prodS s t)) h
    | num t c' e' =>
      have hn' : NumOk f t c' e' := hy
      show RoundTo f (oppW way) (mulP (wv f.b (1 - s) c e) (wv f.b t c' e')) (prodS (1 - s) t) _ _
      rw [wv_ng _ _ _ _ hs, mul_ng (wv_fra hf hn).can (wv_fra hf hn').can, prodS_l hs hn'.s]
      exact round_opp h
theorem quo_opp {f : Fm} (hf : FmOk f) {way : Str} {x y w : Vl} {G : List Str} (hx : VlOk f x) (hy : VlOk f y) (h : QuoTo f way x y w G) : QuoTo f (oppW way) x (oppV y) (oppV w) G := by
  cases x with
  | nan => cases y <;> exact out0_opp (v := .nan) h
  | inf s =>
    have hs : s = 0 ∨ s = 1 := hx
    cases y with
    | nan => exact out0_opp (v := .nan) h
    | inf t => exact out0_opp (v := .nan) h
    | num t c e =>
      have ht : t = 0 ∨ t = 1 := NumOk.s hy
      show Out0 (.inf (prodS s (1 - t))) [] _ _
      rw [prodS_r hs ht]
      exact out0_opp (v := .inf (prodS s t)) h
  | num s c e =>
    have hn : NumOk f s c e := hx
    have hs := hn.s
    cases y with
    | nan => exact out0_opp (v := .nan) h
    | inf t =>
      have ht : t = 0 ∨ t = 1 := hy
      show Out0 (.num (prodS s (1 - t)) 0 f.lo) [] _ _
      rw [prodS_r hs ht]
      exact out0_opp (v := .num (prodS s t) 0 f.lo) h
    | num t c' e' =>
      have hn' : NumOk f t c' e' := hy
      have h : (if c' = 0 then (if c = 0 then Out0 .nan ["invalid"] else Out0 (.inf (prodS s t)) ["by"]) else RoundTo f way (divP (wv f.b s c e) (wv f.b t c' e')) (prodS s t)) w G := h
      show (if c' = 0 then (if c = 0 then Out0 .nan ["invalid"] else Out0 (.inf (prodS s (1 - t))) ["by"]) else RoundTo f (oppW way) (divP (wv f.b s c e) (wv f.b (1 - t) c' e')) (prodS s (1 - t))) _ _
      rw [prodS_r hs hn'.s]
      split at h
      · rename_i z
        rw [if_pos z]
        split at h
        · rename_i z
          rw [if_pos z]
          exact out0_opp (v := .nan) h
        · rename_i z
          rw [if_neg z]
          exact out0_opp (v := .inf (prodS s t)) h
      · rename_i z
        rw [if_neg z, wv_ng _ _ _ _ hn'.s, div_ng (wv_fra hf hn).can (wv_fra hf hn').can ((wv_sign hf hn').1.mpr z)]
        exact round_opp h
theorem sumS_opp {way : Str} {s t : Int} (hs : s = 0 ∨ s = 1) (ht : t = 0 ∨ t = 1) (h : s = t ∨ way = "up" ∨ way = "down") : sumS (oppW way) (1 - s) (1 - t) = 1 - sumS way s t := by
  unfold sumS
  by_cases e : s = t
  · rw [if_pos e, if_pos (by omega)]
  · rw [if_neg e, if_neg (by omega)]
    rcases h with h | rfl | rfl
    · exact absurd h e
    · decide +kernel
    · decide +kernel
theorem sum_opp {f : Fm} (hf : FmOk f) {way : Str} {x y w : Vl} {G : List Str} (hx : VlOk f x) (hy : VlOk f y) (h : SumTo f way x y w G) :
    SumTo f (oppW way) (oppV x) (oppV y) (oppV w) G ∨ (way ≠ "up" ∧ way ≠ "down" ∧ (∃ s, w = .num s 0 f.lo) ∧ G = [] ∧ ∃ t, SumTo f (oppW way) (oppV x) (oppV y) (.num t 0 f.lo) []) := by
  cases x with
  | nan => exact .inl (out0_opp (v := .nan) h)
  | inf s =>
    have hs : s = 0 ∨ s = 1 := hx
    left
    cases y with
    | nan => exact out0_opp (v := .nan) h
    | inf t =>
      have ht : t = 0 ∨ t = 1 := hy
      have h : (if s = t then Out0 (.inf s) [] else Out0 .nan ["invalid"]) w G := h
      show (if 1 - s = 1 - t then Out0 (.inf (1 - s)) [] else Out0 .nan ["invalid"]) _ _
      split at h
      · rename_i z
        rw [if_pos (by omega)]
        exact out0_opp (v := .inf s) h
      · rename_i z
        rw [if_neg (by omega)]
        exact out0_opp (v := .nan) h
    | num t c e => exact out0_opp (v := .inf s) h
  | num s c e =>
    have hn : NumOk f s c e := hx
    have hs := hn.s
    cases y with
    | nan => exact .inl (out0_opp (v := .nan) h)
    | inf t => exact .inl (out0_opp (v := .inf t) h)
    | num t c' e' =>
      have hn' : NumOk f t c' e' := hy
      have h : RoundTo f way (addP (wv f.b s c e) (wv f.b t c' e')) (sumS way s t) w G := h
      have key : ∀ u v : Int, RoundTo f (oppW way) (ngP (addP (wv f.b s c e) (wv f.b t c' e'))) (sumS (oppW way) (1 - s) (1 - t)) (.num u 0 v) [] = SumTo f (oppW way) (oppV (.num s c e)) (oppV (.num t c' e')) (.num u 0 v) [] := fun u v => by
        show _ = RoundTo f (oppW way) (addP (wv f.b (1 - s) c e) (wv f.b (1 - t) c' e')) (sumS (oppW way) (1 - s) (1 - t)) _ _
        rw [wv_ng _ _ _ _ hs, wv_ng _ _ _ _ hn'.s, add_ng (wv_fra hf hn).can (wv_fra hf hn').can]
      have main : RoundTo f (oppW way) (ngP (addP (wv f.b s c e) (wv f.b t c' e'))) (sumS (oppW way) (1 - s) (1 - t)) (oppV w) G → SumTo f (oppW way) (oppV (.num s c e)) (oppV (.num t c' e')) (oppV w) G := fun q => by
        show RoundTo f (oppW way) (addP (wv f.b (1 - s) c e) (wv f.b (1 - t) c' e')) (sumS (oppW way) (1 - s) (1 - t)) _ _
        rw [wv_ng _ _ _ _ hs, wv_ng _ _ _ _ hn'.s, add_ng (wv_fra hf hn).can (wv_fra hf hn').can]
        exact q
      by_cases z : (addP (wv f.b s c e) (wv f.b t c' e')).1 = 0
      · by_cases q : s = t ∨ way = "up" ∨ way = "down"
        · left
          refine main ?_
          rw [sumS_opp hs hn'.s q]
          exact round_opp h
        · right
          rcases h with ⟨_, rfl, rfl⟩ | ⟨z', _⟩
          · refine ⟨fun y => q (.inr (.inl y)), fun y => q (.inr (.inr y)), ⟨_, rfl⟩, rfl, sumS (oppW way) (1 - s) (1 - t), ?_⟩
            rw [← key]
            exact .inl ⟨by show -_ = (0 : Int); omega, rfl, rfl⟩
          · exact absurd z z'
      · left
        refine main (round_sign (by show -_ ≠ (0 : Int); omega) (round_opp h))
/-! ### by one, by zero -/
def oneV (f : Fm) : Vl := .num 0 (f.b ^ (f.p - 1).toNat) (1 - f.p)
theorem one_ok {f : Fm} (hf : FmOk f) {n : Int} (h1 : f.lo ≤ 1 - f.p + n) (h2 : 1 - f.p + n ≤ f.hi) : NumOk f 0 (f.b ^ (f.p - 1).toNat) (1 - f.p + n) := by
  have F0 := hf.F_pos
  have TF := hf.TF
  have eF : f.F = f.b ^ (f.p - 1).toNat := rfl
  have W0 := hf.W_pos
  have F2 := hf.F2
  exact ⟨.inl rfl, h1, h2, by rw [← eF]; omega, by show _ < f.T; rw [← eF]; omega, .inr (by show f.F ≤ _; rw [← eF]; omega)⟩
theorem one_wv {f : Fm} (hf : FmOk f) (n : Int) : wv f.b 0 (f.b ^ (f.p - 1).toNat) (1 - f.p + n) = powP f.b n := by
  have hb := hf.b2
  have p2 := hf.p2
  refine wo_eq (wv_can hb _ _ _) (powP_can hb _) ?_
  rw [wo_sg0 hb]
  have : bp f.b n = ((f.b ^ (f.p - 1).toNat : Int) : Rat) * bp f.b (1 - f.p + n) := by
    rw [bp_nn hb]
    congr 1
    omega
  rw [← this]
  rfl
theorem pow0 (b : Int) : powP b 0 = (1, 1) := by
  unfold powP
  rw [if_pos (by decide)]
  show ((b ^ 0, 1) : P2) = (1, 1)
  rw [Int.pow_zero]
theorem one_w1 {f : Fm} (hf : FmOk f) : wv f.b 0 (f.b ^ (f.p - 1).toNat) (1 - f.p) = (1, 1) := by
  have h := one_wv hf 0
  rwa [Int.add_zero, pow0] at h
theorem one_nz {f : Fm} (hf : FmOk f) : f.b ^ (f.p - 1).toNat ≠ 0 := by
  have := powI_pos (show 2 ≤ f.b from hf.b2) (f.p - 1).toNat
  omega
theorem prodS0 {s : Int} (hs : s = 0 ∨ s = 1) : prodS s 0 = s := by
  rcases hs with rfl | rfl <;> decide
theorem prod_one {f : Fm} (hf : FmOk f) {way : Str} {x w : Vl} {G : List Str} (hx : VlOk f x) (h : ProdTo f way x (oneV f) w G) : w = x ∧ G = [] := by
  cases x with
  | nan => exact h
  | inf s =>
    have h : (if f.b ^ (f.p - 1).toNat = 0 then Out0 .nan ["invalid"] else Out0 (.inf (prodS s 0)) []) w G := h
    rw [if_neg (one_nz hf), prodS0 hx] at h
    exact h
  | num s c e =>
    have hn : NumOk f s c e := hx
    have h : RoundTo f way (mulP (wv f.b s c e) (wv f.b 0 (f.b ^ (f.p - 1).toNat) (1 - f.p))) (prodS s 0) w G := h
    rw [one_w1 hf, mul_o (wv_fra hf hn).can, prodS0 hn.s] at h
    exact round_uniq hf h (round_self hf hn)
theorem quo_one {f : Fm} (hf : FmOk f) {way : Str} {x w : Vl} {G : List Str} (hx : VlOk f x) (h : QuoTo f way x (oneV f) w G) : w = x ∧ G = [] := by
  cases x with
  | nan => exact h
  | inf s =>
    have h : Out0 (.inf (prodS s 0)) [] w G := h
    rw [prodS0 hx] at h
    exact h
  | num s c e =>
    have hn : NumOk f s c e := hx
    have h : (if f.b ^ (f.p - 1).toNat = 0 then (if c = 0 then Out0 .nan ["invalid"] else Out0 (.inf (prodS s 0)) ["by"]) else RoundTo f way (divP (wv f.b s c e) (wv f.b 0 (f.b ^ (f.p - 1).toNat) (1 - f.p))) (prodS s 0)) w G := h
    rw [if_neg (one_nz hf), one_w1 hf, div_o (wv_fra hf hn).can, prodS0 hn.s] at h
    exact round_uniq hf h (round_self hf hn)
theorem fus_one {f : Fm} (hf : FmOk f) {way : Str} {x y w : Vl} {G : List Str} (hx : VlOk f x) (h : FusTo f way x (oneV f) y w G) : SumTo f way x y w G := by
  cases x with
  | nan => cases y <;> exact h
  | inf s =>
    cases y with
    | nan => exact h
    | inf t =>
      have h : (if f.b ^ (f.p - 1).toNat = 0 then Out0 .nan ["invalid"] else SumTo f way (.inf (prodS s 0)) (.inf t)) w G := h
      rwa [if_neg (one_nz hf), prodS0 hx] at h
    | num t c e =>
      have h : (if f.b ^ (f.p - 1).toNat = 0 then Out0 .nan ["invalid"] else SumTo f way (.inf (prodS s 0)) (.num t c e)) w G := h
      rwa [if_neg (one_nz hf), prodS0 hx] at h
  | num s c e =>
    have hn : NumOk f s c e := hx
    cases y with
    | nan => exact h
    | inf t => exact h
    | num t c' e' =>
      have h : RoundTo f way (addP (mulP (wv f.b s c e) (wv f.b 0 (f.b ^ (f.p - 1).toNat) (1 - f.p))) (wv f.b t c' e')) (sumS way (prodS s 0) t) w G := h
      rw [one_w1 hf, mul_o (wv_fra hf hn).can, prodS0 hn.s] at h
      exact h
def zsV (x y : Vl) : Int := if (isNan x || isNan y) = true then 0 else prodS (sgV x) (sgV y)
theorem wv_z {f : Fm} (hf : FmOk f) {s : Int} (hs : s = 0 ∨ s = 1) : wv f.b s 0 f.lo = (0, 1) := by
  have hb := hf.b2
  refine wo_eq (wv_can hb _ _ _) can01 ?_
  rw [wo_wv hb, wo01]
  push_cast
  grind
theorem fus_zero {f : Fm} (hf : FmOk f) {way : Str} {x y w : Vl} {G : List Str} (hx : VlOk f x) (hy : VlOk f y) (h : FusTo f way x y (.num (zsV x y) 0 f.lo) w G) : ProdTo f way x y w G := by
  cases x with
  | nan => cases y <;> exact h
  | inf s =>
    cases y with
    | nan => exact h
    | inf t => exact h
    | num t c e => exact h
  | num s c e =>
    have hn : NumOk f s c e := hx
    cases y with
    | nan => exact h
    | inf t => exact h
    | num t c' e' =>
      have hn' : NumOk f t c' e' := hy
      have ez : zsV (.num s c e) (.num t c' e') = prodS s t := rfl
      rw [ez] at h
      have h : RoundTo f way (addP (mulP (wv f.b s c e) (wv f.b t c' e')) (wv f.b (prodS s t) 0 f.lo)) (sumS way (prodS s t) (prodS s t)) w G := h
      rw [wv_z hf (prodS01 s t), add_z (can_mul (wv_fra hf hn).can (wv_fra hf hn').can), show sumS way (prodS s t) (prodS s t) = prodS s t from if_pos rfl] at h
      exact h
/-! ### what is fused fits -/
def FusB (f : Fm) (x y z : Vl) : Prop := ∀ s c e t c' e' u c2 e2, x = .num s c e → y = .num t c' e' → z = .num u c2 e2 → ∃ k l, Fra k (mulP (wv f.b s c e) (wv f.b t c' e')) ∧ Fra l (wv f.b u c2 e2) ∧ k + l + 1 ≤ 9700
theorem fusB_of {f : Fm} {k : Nat} (hk : WvB f k) (h : 3 * k + 1 ≤ 9700) {x y z : Vl} (hx : VlOk f x) (hy : VlOk f y) (hz : VlOk f z) : FusB f x y z := by
  rintro s c e t c' e' u c2 e2 rfl rfl rfl
  exact ⟨k + k, k, (hk _ _ _ hx).fb.mul (hk _ _ _ hy).fb, hk _ _ _ hz, by omega⟩
theorem fusB_one {f : Fm} (hf : FmOk f) {x y : Vl} (hx : VlOk f x) (hy : VlOk f y) : FusB f x (oneV f) y := by
  rintro s c e t c' e' u c2 e2 rfl q rfl
  cases q
  rw [one_w1 hf, mul_o (wv_fra hf hx).can]
  exact ⟨3200, 3200, wv_fra hf hx, wv_fra hf hy, by decide⟩
theorem fusB_zero {f : Fm} (hf : FmOk f) {x y : Vl} (hx : VlOk f x) (hy : VlOk f y) {s : Int} (hs : s = 0 ∨ s = 1) : FusB f x y (.num s 0 f.lo) := by
  rintro s c e t c' e' u c2 e2 rfl rfl q
  cases q
  rw [wv_z hf hs]
  exact ⟨6400, 64, (wv_fra hf hx).fb.mul (wv_fra hf hy).fb, Fra.up fr01 (by decide), by decide⟩
def ScaTo (f : Fm) (way : Str) (x : Vl) (n : Int) : Vl → List Str → Prop :=
  match x with
  | .num s c e => RoundTo f way (mulP (wv f.b s c e) (powP f.b n)) s
  | v => Out0 v []
theorem sca_prod {f : Fm} (hf : FmOk f) {way : Str} {x w : Vl} {n : Int} {G : List Str} (hx : VlOk f x) (h : ScaTo f way x n w G) : ProdTo f way x (.num 0 (f.b ^ (f.p - 1).toNat) (1 - f.p + n)) w G := by
  cases x with
  | nan => exact h
  | inf s =>
    have hs : s = 0 ∨ s = 1 := hx
    show (if f.b ^ (f.p - 1).toNat = 0 then Out0 .nan ["invalid"] else Out0 (.inf (prodS s 0)) []) w G
    rw [if_neg (one_nz hf), prodS0 hs]
    exact h
  | num s c e =>
    have hn : NumOk f s c e := hx
    show RoundTo f way (mulP (wv f.b s c e) (wv f.b 0 (f.b ^ (f.p - 1).toNat) (1 - f.p + n))) (prodS s 0) w G
    rw [one_wv hf, prodS0 hn.s]
    exact h
/-! ### sums grow with a member -/
theorem sum_mono {f : Fm} (hf : FmOk f) {way : Str} {x y z w w' : Vl} {G G' : List Str} (hx : VlOk f x) (hy : VlOk f y) (hz : VlOk f z) (nx : notNan x) (ny : notNan y) (nz : notNan z) (hr : rkV f x ≤ rkV f y) (h : SumTo f way x z w G) (h' : SumTo f way y z w' G') (nw : notNan w) (nw' : notNan w') : rkV f w ≤ rkV f w' := by
  have ow := (one_sum hf hx hz).vl _ _ h
  have ow' := (one_sum hf hy hz).vl _ _ h'
  have top : ∀ v, VlOk f v → -f.X ≤ rkV f v ∧ rkV f v ≤ f.X := fun v hv => by
    cases v with
    | nan =>
      have := (rk_inf hf 0).1
      show -f.X ≤ 0 ∧ 0 ≤ f.X
      omega
    | inf s =>
      obtain ⟨a, b⟩ := rk_inf hf s
      rw [b]
      split <;> omega
    | num s c e =>
      have := rk_lt hf (show NumOk f s c e from hv)
      omega
  have tw := top _ ow
  have tw' := top _ ow'
  cases z with
  | nan => exact nz.elim
  | inf u =>
    -- both are it
    have at_ : ∀ {v w : Vl} {G : List Str}, notNan v → SumTo f way v (.inf u) w G → notNan w → w = .inf u := fun {v w G} nv h nw => by
      cases v with
      | nan => exact nv.elim
      | inf s =>
        have h : (if s = u then Out0 (.inf s) [] else Out0 .nan ["invalid"]) w G := h
        split at h
        · rename_i z
          rw [h.1, z]
        · rw [h.1] at nw
          exact nw.elim
      | num s c e => exact h.1
    rw [at_ nx h nw, at_ ny h' nw']
    exact Int.le_refl _
  | num u c2 e2 =>
    cases x with
    | nan => exact nx.elim
    | inf s =>
      have e1 : w = .inf s := h.1
      obtain ⟨X0, r1⟩ := rk_inf hf s
      cases y with
      | nan => exact ny.elim
      | inf t =>
        have e2 : w' = .inf t := h'.1
        rw [e1, e2]
        exact hr
      | num t c e =>
        have := rk_lt hf (show NumOk f t c e from hy)
        have hs : s = 0 ∨ s = 1 := hx
        rw [e1, r1]
        rw [r1] at hr
        rcases hs with rfl | rfl
        · rw [if_neg (by decide)] at hr
          omega
        · rw [if_pos rfl]
          omega
    | num s c e =>
      have hn : NumOk f s c e := hx
      cases y with
      | nan => exact ny.elim
      | inf t =>
        have e2 : w' = .inf t := h'.1
        obtain ⟨X0, r1⟩ := rk_inf hf t
        have := rk_lt hf hn
        have ht : t = 0 ∨ t = 1 := hy
        rw [e2, r1]
        rw [r1] at hr
        rcases ht with rfl | rfl
        · rw [if_neg (by decide)]
          omega
        · rw [if_pos rfl] at hr
          omega
      | num t c' e' =>
        have hn' : NumOk f t c' e' := hy
        have hn2 : NumOk f u c2 e2 := hz
        have f1 := (wv_fra hf hn).can
        have f2 := (wv_fra hf hn').can
        have f3 := (wv_fra hf hn2).can
        refine round_mono hf (can_add f1 f3) (can_add f2 f3) ?_ h h'
        rw [wo_add f1 f3, wo_add f2 f3]
        have a := wo_rank hf hn' hn
        have : ¬ wo (wv f.b t c' e') < wo (wv f.b s c e) := by rw [a]; omega
        have := Rat.not_lt.mp this
        exact Rat.add_le_add_right.mpr this
theorem least_rk {f : Fm} {x y : Vl} (nx : notNan x) (ny : notNan y) : rkV f (leastV f x y) ≤ rkV f (greatV f x y) ∧ notNan (leastV f x y) ∧ notNan (greatV f x y) := by
  have e : ¬ (isNan x || isNan y) = true := by rw [isNan_of nx, isNan_of ny]; decide
  have l : leastV f x y = if ahB f x y = true then x else y := if_neg e
  have g : greatV f x y = if ahB f x y = true then y else x := if_neg e
  rw [l, g]
  by_cases a : ahB f x y = true
  · rw [if_pos a, if_pos a]
    have : rkV f x ≤ rkV f y := by
      unfold ahB at a
      simp only [Bool.or_eq_true, Bool.and_eq_true, decide_eq_true_eq, Bool.not_eq_true', decide_eq_false_iff_not] at a
      omega
    exact ⟨this, nx, ny⟩
  · rw [if_neg a, if_neg a]
    have : rkV f y ≤ rkV f x := by
      apply Int.not_lt.mp
      intro z
      apply a
      unfold ahB
      simp [z]
    exact ⟨this, ny, nx⟩
/-! ### the lack of a sum -/
theorem text_any {t : Str} {G : List Str} : ((G.map PyData.str).any fun z => PyData.eqv z (.str t)) = true ↔ t ∈ G := by
  rw [List.any_eq_true]
  constructor
  · rintro ⟨d, hd, e⟩
    obtain ⟨s, hs, rfl⟩ := List.mem_map.mp hd
    rw [eqv_str] at e
    have : s = t := by simpa using e
    exact this ▸ hs
  · intro h
    exact ⟨.str t, List.mem_map.mpr ⟨t, h, rfl⟩, by rw [eqv_str]; simp⟩
theorem text_in (t : Str) (G : List Str) : inP (.str t) (G.map PyData.str) = true := by
  unfold inP
  rw [Bool.and_eq_true]
  refine ⟨rfl, List.all_eq_true.mpr fun d hd => ?_⟩
  obtain ⟨s, _, rfl⟩ := List.mem_map.mp hd
  rfl
theorem round_over {f : Fm} {way : Str} {x : P2} {s : Int} {w : Vl} {G : List Str} (h : RoundTo f way x s w G) : ("over" : Str) ∈ G ∨ ∃ s k j, w = .num s k j := by
  rcases h with ⟨_, rfl, _⟩ | ⟨_, c, e, sd, _, rfl, rfl⟩
  · exact .inr ⟨_, _, _, rfl⟩
  · unfold finV finG
    by_cases z : f.hi < (upC f way (sgF x) c e sd).2
    · exact .inl (by rw [if_pos z]; simp)
    · exact .inr ⟨_, _, _, if_neg z⟩
theorem size_wv {f : Fm} (hf : FmOk f) {x : P2} (hx : Can x) {k j : Int} (h : SizeAt f x k j) : absP x = wv f.b 0 k j := by
  refine wo_eq (can_abs hx) (wv_can hf.b2 _ _ _) ?_
  rw [wo_sg0 hf.b2]
  exact h.2.symm
theorem wv_den {f : Fm} (hf : FmOk f) {s c e : Int} (h : NumOk f s c e) : Bd 2400 (wv f.b s c e).2 := by
  have e1 := h.e1
  have bl := hf.bl
  have hb := hf.b2
  have key : Bd 2400 (mulP (c, 1) (powP f.b e)).2 := by
    refine Bd.nrm2 ?_
    show Bd 2400 (1 * (powP f.b e).2)
    rw [Int.one_mul]
    unfold powP
    split
    · exact (Bd.lit64 1 (by decide)).up (by decide)
    · rename_i z
      refine bl.of_natAbs ?_
      have p1 := powI_pos hb (-e).toNat
      have p2 := powI_pos hb f.lo.natAbs
      have := pow_le_pow (b := f.b) (by omega) (show (-e).toNat ≤ f.lo.natAbs by omega)
      show (f.b ^ (-e).toNat).natAbs ≤ _
      omega
  unfold wv
  split
  · exact key
  · exact key
structure LackAt (f : Fm) (S W : P2) (k j : Int) : Prop where
  num : NumOk f 0 k j
  eq : absP (subP S W) = wv f.b 0 k j
  den : Bd 8990 (S.2 * W.2)
theorem lack_at {f : Fm} (hf : FmOk f) {a c e t c' e' : Int} (h : NumOk f a c e) (h' : NumOk f t c' e') {s0 s k j : Int} {G : List Str} (r : RoundTo f "even" (addP (wv f.b a c e) (wv f.b t c' e')) s0 (.num s k j) G) (hw : NumOk f s k j) :
    ∃ k' j', LackAt f (addP (wv f.b a c e) (wv f.b t c' e')) (wv f.b s k j) k' j' := by
  obtain ⟨k', j', q⟩ := sum_lack hf h h' r
  refine ⟨k', j', q.1, size_wv hf (can_sub (can_add (wv_fra hf h).can (wv_fra hf h').can) (wv_fra hf hw).can) q, ?_⟩
  have d1 : Bd 4800 (addP (wv f.b a c e) (wv f.b t c' e')).2 := by
    refine Bd.nrm2 ?_
    exact (wv_den hf h).mul (wv_den hf h')
  exact (d1.mul (wv_den hf hw)).up (by decide)
end VI

/-! PL33: wider fractions: quotients of long ints. -/
namespace VI
open PySem
theorem quot_logk {k : Nat} (hk : k ≤ 4000) {N D c : Int} (hN : 0 ≤ N) (hD : 0 < D) (e : N.fdiv D = c) (hc : Bd k c) : N.natAbs.log2 ≤ D.natAbs.log2 + 4400 := by
  have h1 : N < (N / D + 1) * D := Int.lt_ediv_add_one_mul_self N hD
  rw [Int.fdiv_eq_ediv_of_nonneg _ (by omega)] at e
  rw [e] at h1
  have hc : c.natAbs < 2 ^ k := hc
  have h2 : D.natAbs < 2 ^ (D.natAbs.log2 + 1) := Nat.lt_log2_self
  by_cases n0 : N.natAbs = 0
  · rw [n0]
    exact Nat.zero_le _
  have h3 : N.natAbs < 2 ^ k * D.natAbs := by
    obtain ⟨P, hP⟩ : ∃ P : Nat, P = 2 ^ k := ⟨_, rfl⟩
    rw [← hP] at hc ⊢
    have : (c + 1) * D ≤ (P : Int) * D := Int.mul_le_mul_of_nonneg_right (by omega) (by omega)
    have e2 : ((P * D.natAbs : Nat) : Int) = P * D := by
      rw [Int.natCast_mul, show ((D.natAbs : Nat) : Int) = D by omega]
    omega
  have h4 : N.natAbs < 2 ^ (k + 1 + D.natAbs.log2) := by
    refine Nat.lt_of_lt_of_le h3 ?_
    rw [show k + 1 + D.natAbs.log2 = k + (D.natAbs.log2 + 1) by omega, Nat.pow_add]
    exact Nat.mul_le_mul_left _ (Nat.le_of_lt h2)
  have := (Nat.log2_lt n0).mpr h4
  omega
theorem quot_log {N D c : Int} (hN : 0 ≤ N) (hD : 0 < D) (e : N.fdiv D = c) (hc : Bd 640 c) : N.natAbs.log2 ≤ D.natAbs.log2 + 4400 := quot_logk (by decide) hN hD e hc
/-- long ints that may be reduced -/
def RedW (n d : Int) : Prop := d ≠ 0 ∧ ∃ K, Bd K n ∧ Bd K d ∧ K ≤ 13390
def RedOk (n d : Int) : Prop := (d ≠ 0 ∧ Bd 8990 d) ∨ RedW n d
theorem RedOk.left {n d : Int} (h : d ≠ 0 ∧ Bd 8990 d) : RedOk n d := .inl h
theorem RedOk.ne {n d : Int} (h : RedOk n d) : d ≠ 0 := h.elim (·.1) (·.1)
theorem RedOk.dv {n d g : Int} (h : RedOk n d) (hg : g.natAbs = Int.gcd n d) : (g ≠ 0 ∧ (g.natAbs.log2 < 9000 ∨ n.natAbs.log2 ≤ g.natAbs.log2 + 4400)) ∧ (g ≠ 0 ∧ (g.natAbs.log2 < 9000 ∨ d.natAbs.log2 ≤ g.natAbs.log2 + 4400)) := by
  have h0 := h.ne
  have g0 : g ≠ 0 := fun e => h0 (Int.gcd_eq_zero_iff.mp (by rw [← hg, e]; rfl)).2
  rcases h with ⟨_, hb⟩ | ⟨_, K, b1, b2, hK⟩
  · have b : Bd 8990 g := by
      have := hb.gcd (x := n) h0
      unfold Bd at this ⊢
      omega
    have := (b.divOk g0 (by decide)).2
    exact ⟨⟨g0, .inl this⟩, ⟨g0, .inl this⟩⟩
  · have l1 := b1.log
    have l2 := b2.log
    by_cases z : g.natAbs.log2 < 9000
    · exact ⟨⟨g0, .inl z⟩, ⟨g0, .inl z⟩⟩
    · exact ⟨⟨g0, .inr (by omega)⟩, ⟨g0, .inr (by omega)⟩⟩
theorem RedOk.sum {k l : Nat} {x y : P2} (hx : Fb k x) (hy : Fb l y) (h : k + l ≤ 13380 ∨ k + l ≤ 400000 ∧ Bd 8990 (x.2 * y.2)) :
    RedOk (x.1 * y.2 + y.1 * x.2) (x.2 * y.2) ∧ RedOk (x.1 * y.2 - y.1 * x.2) (x.2 * y.2) := by
  have ne := mul_ne hx.ne hy.ne
  rcases h with q | q
  · have b1 := hx.b1.mul hy.b2
    have b2 := (hy.b1.mul hx.b2).up (show l + k ≤ k + l by omega)
    have b3 := (hx.b2.mul hy.b2).up (show k + l ≤ k + l + 1 by omega)
    exact ⟨.inr ⟨ne, k + l + 1, (b1.add b2).up (by omega), b3, by omega⟩, .inr ⟨ne, k + l + 1, (b1.sub b2).up (by omega), b3, by omega⟩⟩
  · exact ⟨.inl ⟨ne, q.2⟩, .inl ⟨ne, q.2⟩⟩
theorem RedOk.less {k l : Nat} {x y : P2} (hx : Fb k x) (hy : Fb l y) (h : k + l ≤ 13380 ∨ k + l ≤ 400000 ∧ RedOk (x.1 * y.2 - y.1 * x.2) (x.2 * y.2)) : RedOk (x.1 * y.2 - y.1 * x.2) (x.2 * y.2) :=
  h.elim (fun q => (RedOk.sum hx hy (.inl q)).2) (·.2)
/-- the two ways from a fraction to its neighbours -/
theorem near_red {f : Fm} (hf : FmOk f) {x : P2} {K : Nat} (hx : Fra K x) (hK : K ≤ 9700) {c e : Int} {sd : Option Int} (hp : PartAt f x c e sd) {L U : P2} {u : Int} (cL : Can L) (cU : Can U) (wL : wo L = (c : Rat) * bp f.b e) (wU : wo U = (u : Rat) * bp f.b e) (hu : c ≤ u ∧ u ≤ c + 1) (hux : wo x ≤ wo U) (dL : Bd 2464 L.2) (dU : Bd 2464 U.2) (nU : c = 0 → Bd 2410 U.1) :
    RedOk (x.1 * L.2 - L.1 * x.2) (x.2 * L.2) ∧ RedOk (U.1 * x.2 - x.1 * U.2) (U.2 * x.2) := by
  have hb := hf.b2
  have c0 := hp.c0
  have bp0 := bp_pos hb e
  have Lp := cL.pos
  have Up := cU.pos
  have xp := hx.can.pos
  have le1 : wo L ≤ wo x := by rw [wL]; exact hp.le
  have L0 : 0 ≤ L.1 := by
    apply Int.not_lt.mp
    intro z
    have := (wo_neg_iff cL).1.mpr z
    have h2 := mul_le_bp hb c0 e
    rw [← wL, show ((0 : Int) : Rat) * bp f.b e = 0 by simp] at h2
    exact absurd (Std.lt_of_lt_of_le this h2) Rat.lt_irrefl
  have i1 : L.1 * x.2 ≤ x.1 * L.2 := by
    apply Int.not_lt.mp
    intro z
    exact absurd (Std.lt_of_lt_of_le ((wo_mul_iff xp Lp).1.mp z) le1) Rat.lt_irrefl
  have i2 : x.1 * U.2 ≤ U.1 * x.2 := by
    apply Int.not_lt.mp
    intro z
    exact absurd (Std.lt_of_lt_of_le ((wo_mul_iff Up xp).1.mp z) hux) Rat.lt_irrefl
  have p1 : 0 ≤ L.1 * x.2 := Int.mul_nonneg L0 (by omega)
  have bx : Bd (K + 2464) (x.1 * L.2) := hx.b1.mul dL
  have bxU : Bd (K + 2464) (x.1 * U.2) := hx.b1.mul dU
  have x0 : 0 ≤ x.1 * U.2 := Int.mul_nonneg (by
    apply Int.not_lt.mp
    intro z
    have : L.1 * x.2 ≤ x.1 * L.2 := i1
    have : x.1 * L.2 < 0 := Int.mul_neg_of_neg_of_pos z Lp
    omega) (by omega)
  refine ⟨.inr ⟨mul_ne hx.ne (by omega), K + 2480, ?_, (hx.b2.mul dL).up (by omega), by omega⟩, .inr ⟨mul_ne (by omega) hx.ne, K + 2480, ?_, (dU.mul hx.b2).up (by omega), by omega⟩⟩
  · exact (Bd.of_natAbs bx (by omega)).up (by omega)
  · by_cases z : c = 0
    · have : Bd (2410 + K) (U.1 * x.2) := (nU z).mul hx.b2
      exact (Bd.of_natAbs this (by omega)).up (by omega)
    · have i3 : U.1 * x.2 ≤ 2 * x.1 * U.2 := by
        apply Int.not_lt.mp
        intro y
        have y2 := (wo_mul_iff (p := (2 * x.1, x.2)) (q := U) xp Up).1.mp (by show 2 * x.1 * U.2 < U.1 * x.2; exact y)
        have w2 : wo (2 * x.1, x.2) = 2 * wo x := by
          unfold wo
          show ((2 * x.1 : Int) : Rat) / (x.2 : Rat) = _
          rw [Rat.div_def, Rat.div_def]
          push_cast
          grind
        rw [w2, wU] at y2
        have h1 : (u : Rat) * bp f.b e ≤ ((2 * c : Int) : Rat) * bp f.b e := mul_le_bp hb (by omega) e
        have h2 : ((2 * c : Int) : Rat) * bp f.b e ≤ 2 * wo x := by
          have := hp.le
          push_cast
          grind
        exact absurd (Std.lt_of_lt_of_le y2 (Rat.le_trans h1 h2)) Rat.lt_irrefl
      rw [Int.mul_assoc] at i3
      exact (Bd.of_natAbs bxU (by omega)).up (by omega)
theorem first_bd {f : Fm} (hf : FmOk f) {x : P2} {c e : Int} {sd : Option Int} (hp : PartAt f x c e sd) {u : Int} (hu : 0 ≤ u ∧ u ≤ c + 1) : c = 0 → Bd 2410 (wv f.b 0 u e).1 := fun z => by
  have F0 := hf.F_pos
  have l : e = f.lo := by
    rcases hp.cF with q | q
    · exact q
    · omega
  subst z
  have hb := hf.b2
  have bl := hf.bl
  show Bd 2410 (nrm (u * (powP f.b e).1) (1 * (powP f.b e).2)).1
  have bu : Bd 2 u := by unfold Bd; omega
  have bp1 : Bd 2400 (powP f.b e).1 := by
    unfold powP
    split
    · refine bl.of_natAbs ?_
      rw [show e.toNat = f.lo.natAbs by omega]
      exact Nat.le_refl _
    · exact (Bd.lit64 1 (by decide)).up (by decide)
  exact ((bu.mul bp1).nrm1).up (by decide)
theorem fusB_any {f : Fm} (hf : FmOk f) {x y z : Vl} (hx : VlOk f x) (hy : VlOk f y) (hz : VlOk f z) : FusB f x y z :=
  fusB_of (k := 3200) (fun _ _ _ h => wv_fra hf h) (by decide) hx hy hz
end VI

/-! PL34: bounds by the format (k20). -/
namespace VI
open PySem
structure FmB (f : Fm) (P U : Nat) : Prop where
  p : Bd P (f.b ^ f.p.toNat)
  l : Bd U (f.b ^ f.lo.natAbs)
  h : Bd U (f.b ^ f.hi.natAbs)
  p1 : 1 ≤ P
  u1 : 1 ≤ U
theorem bd_one {k : Nat} (h : 1 ≤ k) : Bd k (1 : Int) := Bd.up (k := 1) (by unfold Bd; decide) h
theorem fb_i {k : Nat} (h : 1 ≤ k) {c : Int} (hc : Bd k c) : Fb k (c, 1) := ⟨by show (0 : Int) < 1; decide, hc, bd_one h⟩
theorem FmOk.fmB {f : Fm} (hf : FmOk f) : FmB f 640 2400 := ⟨hf.bp, hf.bl, hf.bh, by decide, by decide⟩
theorem FmB.raP {f : Fm} (hf : FmOk f) {P U : Nat} (h : FmB f P U) {e : Int} (h1 : f.lo ≤ e) (h2 : e ≤ f.hi) : Fra U (powP f.b e) := by
  have key : ∀ n : Nat, n ≤ e.natAbs → Bd U (f.b ^ n) := fun n hn => by
    by_cases z : e.natAbs ≤ f.lo.natAbs
    · exact bd_pow_le hf.b2 (by omega) h.l
    · exact bd_pow_le hf.b2 (show n ≤ f.hi.natAbs by omega) h.h
  have one := bd_one h.u1
  refine ⟨powP_can hf.b2 e, ?_, ?_⟩
  · unfold powP
    split
    · exact key _ (by omega)
    · exact one
  · unfold powP
    split
    · exact one
    · exact key _ (by omega)
theorem FmB.top {f : Fm} (hf : FmOk f) {P U : Nat} (h : FmB f P U) : Fra (P + U) (topP f) := by
  have W0 := hf.W_pos
  have F0 := hf.F_pos
  have TF := hf.TF
  have hp : Bd P f.T := h.p
  have h1 : Fb P (f.T - 1, 1) := fb_i h.p1 (hp.of_natAbs (by omega))
  exact h1.mul (h.raP hf hf.lh (Int.le_refl _)).fb
theorem FmB.nor {f : Fm} (hf : FmOk f) {P U : Nat} (h : FmB f P U) : Fra (P + U) (norP f) := by
  have hp := hf.p2
  have one : Bd (P + U) (1 : Int) := bd_one (by have := h.p1; omega)
  have F1 : Bd P (f.b ^ (f.p - 1).toNat) := bd_pow_le hf.b2 (by omega) h.p
  unfold norP
  refine ⟨powP_can hf.b2 _, ?_, ?_⟩
  · unfold powP
    split
    · by_cases z : 0 ≤ f.lo
      · rw [show (f.lo + f.p - 1).toNat = f.lo.natAbs + (f.p - 1).toNat by omega, Int.pow_add]
        exact (h.l.mul F1).up (by omega)
      · exact (bd_pow_le hf.b2 (show (f.lo + f.p - 1).toNat ≤ (f.p - 1).toNat by omega) F1).up (by omega)
    · exact one
  · unfold powP
    split
    · exact one
    · exact (bd_pow_le hf.b2 (show (-(f.lo + f.p - 1)).toNat ≤ f.lo.natAbs by omega) h.l).up (by omega)
def smB40 (f : Fm) : Bool := !decide (f.p < 40) || (decide ((f.b ^ f.p.toNat).natAbs < 2 ^ 220) && decide ((f.b ^ f.lo.natAbs).natAbs < 2 ^ 1400) && decide ((f.b ^ f.hi.natAbs).natAbs < 2 ^ 1400))
theorem fmA_40 {f : Fm} (h : f ∈ fmA) (hp : f.p < 40) : FmB f 220 1400 := by
  have q := fm_of (l := fmA) (c := smB40) (by decide +kernel) h
  unfold smB40 at q
  simp only [Bool.or_eq_true, Bool.and_eq_true, decide_eq_true_eq, Bool.not_eq_true', decide_eq_false_iff_not] at q
  rcases q with q | ⟨⟨a, b⟩, c⟩
  · exact absurd hp q
  · exact ⟨a, b, c, by decide, by decide⟩
/-- what a part of itself adds -/
theorem add_mul {x y : P2} (hx : Can x) (hy : Can y) : addP x (mulP x y) = mulP x (addP (1, 1) y) := by
  refine wo_eq (can_add hx (can_mul hx hy)) (can_mul hx (can_add one_can hy)) ?_
  rw [wo_add hx (can_mul hx hy), wo_mul hx hy, wo_mul hx (can_add one_can hy), wo_add one_can hy, wo11]
  grind
end VI

/-! PL35: squares of fractions (k20). -/
namespace VI
open PySem
theorem part_pow2 {f : Fm} (hf : FmOk f) {P U K : Nat} (hB : FmB f P U) (hUK : U ≤ K) {x : P2} (hx : Fb K x) {c e : Int} {sd : Option Int} (hp : PartAt f x c e sd) : Fra K (powP f.b e) ∧ Bd U (powP f.b e).2 := by
  have hb := hf.b2
  have e0 := hp.e0
  have one := bd_one hB.u1
  have den : Bd U (powP f.b e).2 := by
    unfold powP
    split
    · exact one
    · exact bd_pow_le hb (show (-e).toNat ≤ f.lo.natAbs by omega) hB.l
  refine ⟨⟨powP_can hb e, ?_, den.up hUK⟩, den⟩
  unfold powP
  split
  · rename_i z
    by_cases q : e = f.lo
    · exact (bd_pow_le hb (show e.toNat ≤ f.lo.natAbs by omega) hB.l).up hUK
    · have F0 := hf.F_pos
      have W0 := hf.W_pos
      have cF : f.F ≤ c := by
        rcases hp.cF with y | y
        · exact absurd y q
        · exact y
      have le : bp f.b e ≤ wo x := by
        have := mul_le_bp hb (show (1 : Int) ≤ c by omega) e
        have e2 : ((1 : Int) : Rat) * bp f.b e = bp f.b e := by simp
        rw [e2] at this
        exact Rat.le_trans this hp.le
      have xp := hx.pos
      have hk := (wo_ge hb (n := x.1) (d := x.2) xp 1 e).mp (by simpa using le)
      rw [Int.one_mul, show (max 0 (-e)).toNat = 0 by omega, Int.pow_zero, Int.mul_one, show (max 0 e).toNat = e.toNat by omega] at hk
      have p0 := powI_pos hb e.toNat
      have : f.b ^ e.toNat ≤ x.2 * f.b ^ e.toNat := by
        have := Int.mul_le_mul_of_nonneg_right (show (1 : Int) ≤ x.2 by omega) (show 0 ≤ f.b ^ e.toNat by omega)
        omega
      exact hx.b1.of_natAbs (by omega)
  · exact one.up hUK
/-- half a step up -/
theorem half_at {f : Fm} (hf : FmOk f) {P U K : Nat} (hB : FmB f P U) (hUK : U ≤ K) {x : P2} (hx : Fb K x) {c e : Int} {sd : Option Int} (hp : PartAt f x c e sd) : Fb (P + 3) ((2 * c + 1, 2) : P2) ∧ Fra (P + 3 + K) (mulP (2 * c + 1, 2) (powP f.b e)) ∧ Bd (2 + U) (mulP (2 * c + 1, 2) (powP f.b e)).2 ∧ 0 ≤ (mulP (2 * c + 1, 2) (powP f.b e)).1 := by
  obtain ⟨h1, h2⟩ := part_pow2 hf hB hUK hx hp
  have c0 := hp.c0
  have c1 := hp.c1
  have hT : Bd P f.T := hB.p
  have bc : Bd P c := hT.of_natAbs (by omega)
  have b2 : Bd 2 (2 : Int) := by unfold Bd; decide
  have p1 := hB.p1
  have b3 : Bd (P + 3) (2 * c + 1) := ((b2.mul bc).add (bd_one (k := 2 + P) (by omega))).up (by omega)
  have f1 : Fb (P + 3) ((2 * c + 1, 2) : P2) := ⟨by show (0 : Int) < 2; decide, b3, b2.up (by omega)⟩
  have pos : 0 ≤ (powP f.b e).1 := by
    unfold powP
    split
    · have := powI_pos hf.b2 e.toNat
      show 0 ≤ f.b ^ e.toNat
      omega
    · show (0 : Int) ≤ 1
      decide
  exact ⟨f1, f1.mul h1.fb, Bd.nrm2 (b2.mul h2), mulP_nn (by show 0 ≤ 2 * c + 1; omega) (by show (0 : Int) < 2; decide) pos h1.can.pos⟩
/-- a little part more or less -/
theorem more_at {x y : P2} {A B : Nat} (hx : Fra A x) (hy : Fra B y) (x0 : 0 ≤ x.1) (hy1 : -y.2 ≤ y.1) : Fra (A + B + 2) (addP x (mulP x y)) ∧ 0 ≤ (addP x (mulP x y)).1 := by
  rw [add_mul hx.can hy.can]
  have f1 : Fb 1 ((1, 1) : P2) := fb_i (by decide) (bd_one (by decide))
  have f2 := f1.add hy.fb
  have pos : 0 ≤ (addP (1, 1) y).1 := by
    have yp := hy.can.pos
    have hd : 0 < 1 * y.2 := by omega
    have e := nrm_eq (n := 1 * y.2 + y.1 * 1) (d := 1 * y.2) (by omega)
    have h2 := (nrm_can (n := 1 * y.2 + y.1 * 1) (d := 1 * y.2) (by omega)).pos
    have hn : 0 ≤ (1 * y.2 + y.1 * 1) * (nrm (1 * y.2 + y.1 * 1) (1 * y.2)).2 := Int.mul_nonneg (by omega) (by omega)
    rw [← e] at hn
    apply Int.not_lt.mp
    intro z
    have : (nrm (1 * y.2 + y.1 * 1) (1 * y.2)).1 * (1 * y.2) < 0 * (1 * y.2) := Int.mul_lt_mul_of_pos_right z hd
    omega
  exact ⟨(hx.fb.mul f2.fb).up (by omega), mulP_nn x0 hx.can.pos pos f2.can.pos⟩
theorem unit_fra {f : Fm} (hf : FmOk f) (hB : FmB f 220 1400) {u : Int} (hu : u = 1 ∨ u = -1) {k : Nat} (hk : k ≤ 6) : Fra 1340 ((u, f.b ^ (k * f.p.toNat + 2)) : P2) := by
  have hb := hf.b2
  have bb : Bd 6 f.b := by have := hf.b36; unfold Bd; omega
  have p0 := powI_pos hb (k * f.p.toNat + 2)
  refine ⟨⟨p0, ?_⟩, ?_, ?_⟩
  · show Int.gcd u (f.b ^ (k * f.p.toNat + 2)) = 1
    rcases hu with rfl | rfl
    · exact Int.gcd_one_left _
    · rw [Int.neg_gcd]
      exact Int.gcd_one_left _
  · exact (Bd.lit64 u (by omega)).up (by decide)
  · show Bd 1340 (f.b ^ (k * f.p.toNat + 2))
    rw [Int.pow_add, Nat.mul_comm, Int.pow_mul]
    have b1 : Bd (220 * k + 1) ((f.b ^ f.p.toNat) ^ k) := (hB.p.pow k).up (by omega)
    have b2 : Bd 14 (f.b ^ 2) := (bb.pow 2).up (by decide)
    exact (b1.mul b2).up (by omega)
end VI

/-! PL36: spans by ranks, boxes (k71). -/
namespace VI
open PySem
def apart (f : Fm) : Sp → Int
  | .no => 0
  | .sp a b => rkV f b - rkV f a
def apart' (f : Fm) : Sp → Int
  | .no => -1
  | .sp a b => rkV f b - rkV f a
def midV (f : Fm) : Sp → Option Vl
  | .no => none
  | .sp a b => if rkV f b - rkV f a < 2 then none else atV f ((rkV f a + rkV f b).fdiv 2)
def boxD (ss : List Sp) : D := .tuple (ss.map spD)
structure BoxOk (f : Fm) (ss : List Sp) : Prop where
  len : ss.length ≤ 3
  ok : ∀ s ∈ ss, SpanOk f s
def WidTo (f : Fm) (ss : List Sp) : Option Nat → Prop
  | none => ∀ s ∈ ss, apart f s < 2
  | some i => ∃ s, ss[i]? = some s ∧ 2 ≤ apart f s ∧ (∀ t ∈ ss, apart f t ≤ apart f s) ∧ ∀ (j : Nat) t, j < i → ss[j]? = some t → apart f t < apart f s
theorem wid_uniq {f : Fm} {ss : List Sp} {o o' : Option Nat} (h : WidTo f ss o) (h' : WidTo f ss o') : o = o' := by
  cases o with
  | none =>
    cases o' with
    | none => rfl
    | some i =>
      obtain ⟨s, a, b, _⟩ := h'
      have := h s (List.mem_of_getElem? a)
      omega
  | some i =>
    obtain ⟨s, a, b, c, d⟩ := h
    cases o' with
    | none =>
      have := h' s (List.mem_of_getElem? a)
      omega
    | some j =>
      obtain ⟨t, a', b', c', d'⟩ := h'
      have q1 := c t (List.mem_of_getElem? a')
      have q2 := c' s (List.mem_of_getElem? a)
      rcases Nat.lt_trichotomy i j with z | z | z
      · have := d' i s z a
        omega
      · rw [z]
      · have := d j t z a'
        omega
def WidM (f : Fm) (ss : List Sp) (m : Int) : Option Nat → Prop
  | none => m = 1
  | some j => ∃ s, ss[j]? = some s ∧ m = apart f s
theorem wid_step {f : Fm} {ss : List Sp} {i : Nat} {s : Sp} {o : Option Nat} {m : Int} (hs : ss[i]? = some s) (hw : WidTo f (ss.take i) o) (hm : WidM f (ss.take i) m o) :
    (m < apart f s → WidTo f (ss.take (i + 1)) (some i) ∧ WidM f (ss.take (i + 1)) (apart f s) (some i)) ∧ (¬ m < apart f s → WidTo f (ss.take (i + 1)) o ∧ WidM f (ss.take (i + 1)) m o) := by
  have hi : i < ss.length := (List.getElem?_eq_some_iff.mp hs).1
  have hl : (ss.take i).length = i := by rw [List.length_take]; omega
  have e : ss.take (i + 1) = ss.take i ++ [s] := by
    rw [List.take_add_one, hs]
    rfl
  have at1 : (ss.take i ++ [s])[i]? = some s := by
    rw [List.getElem?_append_right (by omega), hl, Nat.sub_self]
    rfl
  have at2 : ∀ j : Nat, j < i → (ss.take i ++ [s])[j]? = (ss.take i)[j]? := fun j hj => List.getElem?_append_left (by omega)
  have mem : ∀ t, t ∈ ss.take i ++ [s] → t ∈ ss.take i ∨ t = s := fun t h => (List.mem_append.mp h).imp id fun z => List.mem_singleton.mp z
  rw [e]
  cases o with
  | none =>
    have hm : m = 1 := hm
    refine ⟨fun h => ⟨⟨s, at1, by omega, fun t ht => ?_, fun j t hj ht => ?_⟩, ⟨s, at1, rfl⟩⟩, fun h => ⟨fun t ht => ?_, hm⟩⟩
    · rcases mem t ht with q | q
      · have := hw t q
        omega
      · rw [q]
        exact Int.le_refl _
    · rw [at2 j hj] at ht
      have := hw t (List.mem_of_getElem? ht)
      omega
    · rcases mem t ht with q | q
      · exact hw t q
      · rw [q]
        omega
  | some j =>
    obtain ⟨u, a, b, c, d⟩ := hw
    obtain ⟨u', a', hm⟩ := hm
    rw [a] at a'
    cases a'
    have hj : j < i := by
      have := (List.getElem?_eq_some_iff.mp a).1
      omega
    refine ⟨fun h => ⟨⟨s, at1, by omega, fun t ht => ?_, fun k t hk ht => ?_⟩, ⟨s, at1, rfl⟩⟩, fun h => ⟨⟨u, by rw [at2 j hj]; exact a, b, fun t ht => ?_, fun k t hk ht => ?_⟩, ⟨u, by rw [at2 j hj]; exact a, hm⟩⟩⟩
    · rcases mem t ht with q | q
      · have := c t q
        omega
      · rw [q]
        exact Int.le_refl _
    · rw [at2 k hk] at ht
      have := c t (List.mem_of_getElem? ht)
      omega
    · rcases mem t ht with q | q
      · exact c t q
      · rw [q]
        omega
    · rw [at2 k (by omega)] at ht
      exact d k t hk ht
def oNat : Option Nat → D
  | none => .none
  | some i => .int (i : Nat)
def partD (f : Fm) (ss : List Sp) (i : Nat) : Sp → D
  | .no => .none
  | .sp a b => match midV f (.sp a b) with
    | some m => .tuple [.tuple (((ss.take i ++ [Sp.sp a m]) ++ ss.drop (i + 1)).map spD), .tuple (((ss.take i ++ [Sp.sp m b]) ++ ss.drop (i + 1)).map spD)]
    | none => .none
theorem at_end {f : Fm} (hf : FmOk f) {r : Int} (h : (r.natAbs : Int) ≤ f.X) : ∃ v, atV f r = some v ∧ EndOk f v ∧ rkV f v = r ∧ ((r.natAbs : Int) < f.X → ∀ s, v ≠ .inf s) := by
  obtain ⟨v, e, ok, nn, rk⟩ := rk_at hf h
  refine ⟨v, e, ⟨ok, nn, ?_⟩, rk, fun hl s z => ?_⟩
  · have q := atV_rk hf ok nn
    rw [rk, e] at q
    by_cases z : r = 0
    · rw [if_pos z] at q
      cases q
      rfl
    · cases v with
      | nan => exact nn.elim
      | inf s => rfl
      | num s c e0 =>
        show (if c = 0 then Vl.num 0 c e0 else .num s c e0) = _
        by_cases y : c = 0
        · exfalso
          subst y
          have := zero_lo hf (show NumOk f s 0 e0 from ok)
          subst this
          have rk : (if s = 1 then -((f.lo - f.lo) * f.W + 0) else (f.lo - f.lo) * f.W + 0) = r := rk
          rw [Int.sub_self, Int.zero_mul] at rk
          apply z
          rw [← rk]
          split <;> rfl
        · rw [if_neg y]
  · subst z
    have rk : (if s = 1 then -f.X else f.X) = r := rk
    have X0 := (rk_inf hf s).1
    split at rk <;> omega
theorem end_rk {f : Fm} (hf : FmOk f) {v : Vl} (h : EndOk f v) : ((rkV f v).natAbs : Int) ≤ f.X := by
  have := rk_abs hf h.ok
  have := (rk_inf hf 0).1
  omega
/-- the middle of a span is an end -/
theorem mid_end {f : Fm} (hf : FmOk f) {a b : Vl} (h : SpOk f a b) : (rkV f b - rkV f a < 2 ∧ midV f (.sp a b) = none) ∨ (2 ≤ rkV f b - rkV f a ∧ ∃ m, midV f (.sp a b) = some m ∧ SpOk f a m ∧ SpOk f m b ∧ rkV f a < rkV f m ∧ rkV f m < rkV f b ∧ rkV f m = (rkV f a + rkV f b).fdiv 2) := by
  by_cases z : rkV f b - rkV f a < 2
  · exact .inl ⟨z, if_pos z⟩
  · have ha := end_rk hf h.a
    have hb := end_rk hf h.b
    have e : (rkV f a + rkV f b).fdiv 2 = (rkV f a + rkV f b) / 2 := Int.fdiv_eq_ediv_of_nonneg _ (by decide)
    obtain ⟨m, h1, h2, h3, h4⟩ := at_end hf (r := (rkV f a + rkV f b).fdiv 2) (by rw [e]; omega)
    have nf := h4 (by rw [e]; omega)
    refine .inr ⟨by omega, m, (if_neg z).trans h1, ⟨h.a, h2, h.na, nf 1⟩, ⟨h2, h.b, nf 0, h.nb⟩, by omega, by omega, h3⟩
theorem oD_fit {f : Fm} (hf : FmOk f) {o : Option Vl} (h : ∀ v, o = some v → VlOk f v) : Fit 2 18000 (oD o) := by
  cases o with
  | none => exact Fit.up Fit.none (by decide) (by decide)
  | some v => exact fit_vl hf (h v rfl)
theorem mid_fit {f : Fm} (hf : FmOk f) {s : Sp} (h : SpanOk f s) : Fit 2 18000 (oD (midV f s)) := by
  cases s with
  | no => exact Fit.up Fit.none (by decide) (by decide)
  | sp a b =>
    rcases mid_end hf h with ⟨_, e⟩ | ⟨_, m, e, k, _⟩
    · rw [e]
      exact Fit.up Fit.none (by decide) (by decide)
    · rw [e]
      exact fit_vl hf k.b.ok
theorem box_fit {f : Fm} (hf : FmOk f) {ss : List Sp} (h : ∀ s ∈ ss, SpanOk f s) (hl : ss.length ≤ 8) : Fit 4 500000 (.tuple (ss.map spD)) :=
  (Fit.tup (k := 3) (w := 60000) fun d hd => by
    obtain ⟨s, hs, rfl⟩ := List.mem_map.mp hd
    exact fit_sp hf (h s hs)).up (by decide) (by rw [List.length_map]; omega)
theorem box_take {f : Fm} {ss : List Sp} (h : BoxOk f ss) {i : Nat} {x : Sp} (hx : SpanOk f x) : (∀ s ∈ (ss.take i ++ [x]) ++ ss.drop (i + 1), SpanOk f s) ∧ ((ss.take i ++ [x]) ++ ss.drop (i + 1)).length ≤ 8 := by
  refine ⟨fun s hs => ?_, ?_⟩
  · rcases List.mem_append.mp hs with q | q
    · rcases List.mem_append.mp q with q | q
      · exact h.ok s (List.mem_of_mem_take q)
      · rw [List.mem_singleton.mp q]
        exact hx
    · exact h.ok s (List.mem_of_mem_drop q)
  · have := h.len
    simp only [List.length_append, List.length_take, List.length_drop, List.length_cons, List.length_nil]
    omega
theorem part_fit {f : Fm} (hf : FmOk f) {ss : List Sp} (h : BoxOk f ss) {i : Nat} {s : Sp} (hs : SpanOk f s) : RepOk (partD f ss i s) := by
  have nn : RepOk (PyData.none : D) := Fit.none.rep (by decide) (by decide)
  cases s with
  | no => exact nn
  | sp a b =>
    rcases mid_end hf hs with ⟨_, e⟩ | ⟨_, m, e, k, l, _⟩
    · show RepOk (match midV f (.sp a b) with
        | some m => .tuple [.tuple (((ss.take i ++ [Sp.sp a m]) ++ ss.drop (i + 1)).map spD), .tuple (((ss.take i ++ [Sp.sp m b]) ++ ss.drop (i + 1)).map spD)]
        | none => .none)
      rw [e]
      exact nn
    · show RepOk (match midV f (.sp a b) with
        | some m => .tuple [.tuple (((ss.take i ++ [Sp.sp a m]) ++ ss.drop (i + 1)).map spD), .tuple (((ss.take i ++ [Sp.sp m b]) ++ ss.drop (i + 1)).map spD)]
        | none => .none)
      rw [e]
      obtain ⟨a1, a2⟩ := box_take h (i := i) (x := .sp a m) k
      obtain ⟨b1, b2⟩ := box_take h (i := i) (x := .sp m b) l
      exact (Fit.tup (k := 4) (w := 500000) (all_cons (box_fit hf a1 a2) (all_cons (box_fit hf b1 b2) all_nil))).rep (by decide) (by simp)
theorem cut_to {α : Type} {xs : List α} {i : Nat} (h : i ≤ xs.length) : cutD xs none (some (i : Int)) = xs.take i := by
  have e1 : HT.sIx xs.length 0 none = 0 := rfl
  have e2 : HT.sIx xs.length xs.length (some (i : Int)) = i := by
    rw [HT.sIx_nat]
    omega
  unfold cutD
  rw [e1, e2, List.drop_zero, Nat.sub_zero]
theorem cut_from {α : Type} {xs : List α} {i : Nat} (h : i ≤ xs.length) : cutD xs (some (i : Int)) none = xs.drop i := by
  have e1 : HT.sIx xs.length 0 (some (i : Int)) = i := by
    rw [HT.sIx_nat]
    omega
  have e2 : HT.sIx xs.length xs.length none = xs.length := rfl
  unfold cutD
  rw [e1, e2]
  exact List.take_of_length_le (by rw [List.length_drop]; omega)
theorem allD_app {k : List D → Prop} {xs : List EV} : ∀ {ds : List D}, allD xs (fun ys => k (ds ++ ys)) → allD (ds.map EV.d ++ xs) k
  | [], h => h
  | d :: ds, h => allD_app (k := fun ys => k (d :: ys)) (ds := ds) h
theorem allD_map {k : List D → Prop} {ds : List D} (h : k ds) : allD (ds.map EV.d) k := by
  have := allD_app (k := k) (xs := []) (ds := ds) (by show k (ds ++ []); rw [List.append_nil]; exact h)
  rw [List.append_nil] at this
  exact this
end VI

namespace VI
open PySem PySem.Spec PyProof.Rows
local macro_rules | `(tactic| walk_at "sh") => `(tactic| first | exact Sh.vl | exact Sh.fm | exact Sh.dF | exact Sh.int | exact Sh.bool | exact Sh.none | exact Sh.str (by decide +kernel) | assumption | (apply Sh.tup; walk_at "shs") | (apply Sh.lst; walk_at "shs"))
local macro_rules | `(tactic| walk_at "shs") => `(tactic| first | exact all_nil | (refine all_cons ?_ ?_; walk_at "sh"; walk_at "shs") | assumption)
local macro_rules | `(tactic| walk_at "ne") => `(tactic| with_reducible first | assumption | (apply mul_ne; walk_at "ne"; walk_at "ne") | (apply nrm_ne; walk_at "ne") | omega)
local macro_rules | `(tactic| walk_at "nb") => `(tactic| (refine And.intro ?_ ?_; walk_at "ne"; (apply Bd.up; walk_at "bd"; omega)))
local macro_rules | `(tactic| walk_at "fe") => `(tactic| with_reducible first | assumption | exact Fit.cmp | (apply Fit.pair; walk_at "bd"; walk_at "bd"; omega; omega) | (apply Fit.nrm; walk_at "bd"; walk_at "bd"; omega; omega) | (apply Fit.one; walk_at "bd"; omega))
local macro_rules | `(tactic| walk_at "all") => `(tactic| first | exact all_nil | (refine all_cons ?_ ?_; walk_at "fe"; walk_at "all"))
local macro_rules | `(tactic| walk_at "rep") => `(tactic| first | (refine Fit.rep (Fit.lst (k := 2) (w := 9000) ?_) ?_ ?_; walk_at "all"; omega; (simp only [List.length_cons, List.length_nil]; omega)) | (refine Fit.rep (k := 2) (w := 9000) ?_ ?_ ?_; walk_at "fe"; omega; omega))
local macro_rules | `(tactic| walk_at "vc") => `(tactic| first | exact Or.inl rfl | assumption | omega | walk_at "mo" | walk_at "dv" | walk_at "nb" | (simp only [List.length_cons, List.length_nil, List.length_append]; omega) | trivial | (with_reducible decide) | (refine RedOk.left ?_; first | assumption | walk_at "nb") | (refine Or.inr ⟨shp6 ?_, shp6 ?_⟩ <;> walk_at "sh"))
local macro_rules | `(tactic| walk_at "bd") => `(tactic| with_reducible first | assumption | (apply Bd.mul; walk_at "bd"; walk_at "bd") | (apply Bd.add; walk_at "bd"; walk_at "bd") | (apply Bd.sub; walk_at "bd"; walk_at "bd") | (apply Bd.neg; walk_at "bd") | (apply Bd.emod; walk_at "bd"; first | assumption | omega) | (apply Bd.fdiv; walk_at "bd") | (apply Bd.abs; walk_at "bd") | (apply Bd.nrm1; walk_at "bd") | (apply Bd.nrm2; walk_at "bd") | (refine Bd.lit64 (OfNat.ofNat _) ?_; omega))
local macro_rules | `(tactic| walk_at "mo") => `(tactic| (apply Bd.mulOk; walk_at "bd"; walk_at "bd"; omega))
local macro_rules | `(tactic| walk_at "dv") => `(tactic| (apply Bd.divOk; walk_at "bd"; (first | assumption | omega); omega))
local macro_rules | `(tactic| walk_at "w") => `(tactic| conv => whnf)
local macro_rules | `(tactic| walk_at "vi") => `(tactic|
  (conv => whnf) <;> first
  | (refine ⟨fun (h : _ = true) => ?_, fun (h : _ = false) => ?_⟩ <;> (try simp only [not_true_eq_false, List.any_cons, List.any_nil, Bool.or_eq_true, Bool.or_eq_false_iff, Bool.or_false, eqv_int, eqv_str, decide_eq_true_eq, decide_eq_false_iff_not, Int.not_lt, Int.not_le, Bool.not_eq_true', Bool.not_eq_false', Bool.true_eq_false, Bool.false_eq_true, bne_iff_ne, bne_eq_false_iff_eq, ne_eq, Classical.not_not] at h) <;> walk_at "vi")
  | (refine And.intro ?obl ?go; (case' obl => try walk_at "vc"); (case' go => walk_at "vi"))
  | skip)
local macro_rules | `(tactic| walk_at "vp") => `(tactic|
  (conv => whnf) <;> first
  | (refine ⟨fun (h : _ = true) => ?_, fun (h : _ = false) => ?_⟩ <;> (try simp only [not_true_eq_false, List.any_cons, List.any_nil, Bool.or_eq_true, Bool.or_eq_false_iff, Bool.or_false, eqv_int, eqv_str, decide_eq_true_eq, decide_eq_false_iff_not, Int.not_lt, Int.not_le, Bool.not_eq_true', Bool.not_eq_false', Bool.true_eq_false, Bool.false_eq_true, bne_iff_ne, bne_eq_false_iff_eq, ne_eq, Classical.not_not, nan_eqv, isNan_num, isNan_inf, isNan_nan, isNonD_int, isNonD_none, isNonD_tup, isNonD_vl, strA, strB, strC, strD, strE, strF, spD_no, spD_sp, spn_eqv, non_eqv, false_or, or_false, true_or, or_true, not_false_eq_true, or_self, and_self, false_and, and_false] at h) <;> (try contradiction) <;> (try (exfalso; omega)) <;> walk_at "vp")
  | (refine And.intro ?obl ?go; (case' obl => try walk_at "vc"); (case' go => walk_at "vp"))
  | skip)
local macro_rules | `(tactic| walk_at "mono") => `(tactic| (intro vs g Q Q' h q; revert q; split <;> (intro q; first | exact ⟨q.1, h _ _ q.2⟩ | exact h _ _ q | exact q.elim)))
/-! whole_power -/
def b_whole_power : IS := .seq (.asg (.var 2) (.cst (.int 1))) (.seq (.whl (.cmp .gt (.var 1) (.cst (.int 0))) (.seq (.ifs (.cmp .eq (.bin .mod (.var 1) (.cst (.int 2))) (.cst (.int 1))) (.seq (.asg (.var 2) (.bin .mul (.var 2) (.var 0))) .skip) (.skip)) (.seq (.asg (.tup (.cons (.var 0) (.cons (.var 1) .nil))) (.tup (.cons (.bin .mul (.var 0) (.var 0)) (.cons (.bin .fdiv (.var 1) (.cst (.int 2))) .nil)))) .skip))) (.seq (.ret (.var 2)) .skip))
def tb_whole_power : Tb := ⟨[], []⟩
theorem tbm_whole_power : tb_whole_power.Mono := Tb.mono_of fun q hq => by
  simp only [tb_whole_power, List.mem_cons, List.not_mem_nil, or_false] at hq
def sp_whole_power : Sem := fun vs g Q => match vs with
  | [.d (.int b), .d (.int e)] => (∃ k, Bd k b ∧ 0 ≤ e ∧ k * (4 * e.toNat + 4) ≤ 900000) ∧ Q (.d (.int (b ^ e.toNat))) g
  | _ => False
theorem mono_whole_power : SemMono sp_whole_power := by
  unfold sp_whole_power
  walk_at "mono"
theorem pure_whole_power : ∀ vs g Q, sp_whole_power vs g Q → semF tb_whole_power 3 b_whole_power vs g Q := by
  intro vs g Q h
  unfold sp_whole_power at h
  split at h
  · rename_i b e
    obtain ⟨⟨k, hk, he, hb⟩, h⟩ := h
    walk_at "vi"
    refine ⟨fun m env st => ∃ (p r e' : Nat), env = [some (.d (.int (b ^ p))), some (.d (.int e')), some (.d (.int (b ^ r)))] ∧ st = ⟨g, []⟩ ∧ e' = m ∧ r + p * e' = e.toNat ∧ 1 ≤ p, ⟨_, 1, 0, e.toNat, ?_, rfl, rfl, by omega, by omega⟩, ?_⟩
    · simp [put, Int.toNat_of_nonneg he, Int.pow_succ]
    rintro m _ _ ⟨p, r, e', rfl, rfl, rfl, hs, hp⟩
    have ok : 0 < e' → ∀ x y, x ≤ e.toNat → y ≤ e.toNat → MulOk (b ^ x) (b ^ y) := fun h0 x y hx hy => by
      have h1 := Nat.mul_le_mul_left k hx
      have h2 := Nat.mul_le_mul_left k hy
      rw [Nat.mul_add, ← Nat.mul_assoc, Nat.mul_comm k 4, Nat.mul_assoc] at hb
      exact (hk.pow x).mulOk (hk.pow y) (by omega)
    have hpe : 0 < e' → p ≤ p * e' := fun h0 => Nat.le_mul_of_pos_right p h0
    walk_at "vi"
    · rename_i h0 h1
      obtain ⟨q, rfl⟩ : ∃ q, e' = 2 * q + 1 := ⟨e' / 2, by omega⟩
      refine ⟨q, by omega, 2 * p, r + p, q, ?_, rfl, rfl, by rw [← hs]; grind, by omega⟩
      have e1 : (2 * q + 1 : Nat) / 2 = q := by omega
      simp only [put]
      rw [Int.fdiv_eq_ediv_of_nonneg _ (by decide), show ((2 * q + 1 : Nat) : Int) / 2 = (q : Int) by omega, ← Int.pow_add, ← Int.pow_add, Nat.two_mul]
    · exact ok (by omega) _ _ (by have := hpe (by omega); omega) (by have := hpe (by omega); omega)
    · exact ok (by omega) _ _ (by omega) (by have := hpe (by omega); omega)
    · rename_i h0 h1
      obtain ⟨q, rfl⟩ : ∃ q, e' = 2 * q := ⟨e' / 2, by omega⟩
      refine ⟨q, by omega, 2 * p, r, q, ?_, rfl, rfl, by rw [← hs]; grind, by omega⟩
      simp only [put]
      rw [Int.fdiv_eq_ediv_of_nonneg _ (by decide), show ((2 * q : Nat) : Int) / 2 = (q : Int) by omega, ← Int.pow_add, Nat.two_mul]
    · exact ok (by omega) _ _ (by have := hpe (by omega); omega) (by have := hpe (by omega); omega)
    · rename_i h0
      have e0 : e' = 0 := by omega
      subst e0
      have hr : r = e.toNat := by omega
      rw [hr]
      exact h
  · exact h.elim
/-! rank_in -/
def b_rank_in : IS := .seq (.asg (.tup (.cons (.var 3) (.cons (.var 4) (.cons (.var 5) (.cons (.var 6) .nil))))) (.var 0)) (.seq (.asg (.var 2) (.bin .mul (.bin .sub (.var 3) (.cst (.int 1))) (.call 0 (.cons (.var 3) (.cons (.bin .sub (.var 4) (.cst (.int 1))) .nil))))) (.seq (.ifs (.cmp .eq (.ixc (.var 1) 0) (.cst (.str (Str.ofString "inf")))) (.seq (.asg (.var 7) (.bin .add (.bin .mul (.bin .sub (.var 6) (.var 5)) (.var 2)) (.call 0 (.cons (.var 3) (.cons (.var 4) .nil))))) .skip) (.seq (.asg (.var 7) (.bin .add (.bin .mul (.bin .sub (.ixc (.var 1) 3) (.var 5)) (.var 2)) (.ixc (.var 1) 2))) .skip)) (.seq (.ret (.ife (.cmp .eq (.ixc (.var 1) 1) (.cst (.int 1))) (.neg (.var 7)) (.var 7))) .skip)))
def tb_rank_in : Tb := ⟨[((Str.ofString "whole_power"), 2, sp_whole_power)], []⟩
theorem tbm_rank_in : tb_rank_in.Mono := Tb.mono_of fun q hq => by
  simp only [tb_rank_in, List.mem_cons, List.not_mem_nil, or_false] at hq
  subst hq
  exact mono_whole_power
def sp_rank_in : Sem := fun vs g Q => match vs with
  | [.d (.tuple [.int b, .int p, .int lo, .int hi]), .d (.tuple [.str t, .int s, .int c, .int e])] => (t = "num" ∧ FmOk ⟨b, p, lo, hi⟩ ∧ NumOk ⟨b, p, lo, hi⟩ s c e) ∧ Q (.d (.int (rkV ⟨b, p, lo, hi⟩ (.num s c e)))) g
  | [.d (.tuple [.int b, .int p, .int lo, .int hi]), .d (.tuple [.str t, .int s])] => (t = "inf" ∧ FmOk ⟨b, p, lo, hi⟩) ∧ Q (.d (.int (rkV ⟨b, p, lo, hi⟩ (.inf s)))) g
  | _ => False
theorem mono_rank_in : SemMono sp_rank_in := by
  unfold sp_rank_in
  walk_at "mono"
theorem pure_rank_in : ∀ vs g Q, sp_rank_in vs g Q → semF tb_rank_in 8 b_rank_in vs g Q := by
  intro vs g Q h
  unfold sp_rank_in at h
  have x1 : ("num" : Str) ≠ "inf" := by decide
  split at h
  · rename_i b p lo hi t s c e
    obtain ⟨⟨rfl, hf, hn⟩, h⟩ := h
    obtain ⟨w1, w2⟩ := hf.pw
    have bT : Bd 640 (b ^ p.toNat) := hf.bdT
    have bF : Bd 640 (b ^ (p - 1).toNat) := hf.bdF
    have i1 := hf.b2
    have i2 := hf.b36
    have i3 := hf.l
    have i4 := hf.h
    have i5 := hf.lh
    have i6 := hn.e1
    have i7 := hn.e2
    simp only at i1 i2 i3 i4 i5 i6 i7
    have bb : Bd 6 (b - 1) := by unfold Bd; omega
    have be : Bd 12 (e - lo) := by unfold Bd; omega
    have bh : Bd 12 (hi - lo) := by unfold Bd; omega
    walk_at "vi"
    all_goals first
      | (refine Eq.mp (congrArg (fun z : Int => Q (.d (.int z)) g) ?_) h; unfold rkV Fm.W Fm.F; grind)
      | (exfalso; simp_all; done)
  · rename_i b p lo hi t s
    obtain ⟨⟨rfl, hf⟩, h⟩ := h
    obtain ⟨w1, w2⟩ := hf.pw
    have bT : Bd 640 (b ^ p.toNat) := hf.bdT
    have bF : Bd 640 (b ^ (p - 1).toNat) := hf.bdF
    have i1 := hf.b2
    have i2 := hf.b36
    have i3 := hf.l
    have i4 := hf.h
    have i5 := hf.lh
    simp only at i1 i2 i3 i4 i5
    have bb : Bd 6 (b - 1) := by unfold Bd; omega
    have bh : Bd 12 (hi - lo) := by unfold Bd; omega
    walk_at "vi"
    all_goals first
      | (refine Eq.mp (congrArg (fun z : Int => Q (.d (.int z)) g) ?_) h; unfold rkV Fm.X Fm.W Fm.F Fm.T; grind)
      | (exfalso; simp_all; done)
  · exact h.elim
/-! rank_of -/
def b_rank_of : IS := .seq (.ret (.call 0 (.cons (.var 0) (.cons (.var 1) .nil)))) .skip
def tb_rank_of : Tb := ⟨[((Str.ofString "rank_in"), 2, sp_rank_in)], []⟩
theorem tbm_rank_of : tb_rank_of.Mono := Tb.mono_of fun q hq => by
  simp only [tb_rank_of, List.mem_cons, List.not_mem_nil, or_false] at hq
  subst hq
  exact mono_rank_in
def sp_rank_of : Sem := fun vs g Q => ∃ f v, vs = [.d (fmD f), .d (vlD v)] ∧ (FmOk f ∧ VlOk f v ∧ notNan v) ∧ Q (.d (.int (rkV f v))) g
theorem mono_rank_of : SemMono sp_rank_of := fun vs g Q Q' h ⟨f, v, e, a, q⟩ => ⟨f, v, e, a, h _ _ q⟩
theorem pure_rank_of : ∀ vs g Q, sp_rank_of vs g Q → semF tb_rank_of 2 b_rank_of vs g Q := by
  rintro _ g Q ⟨⟨b, p, lo, hi⟩, v, rfl, ⟨hf, hv, hn⟩, h⟩
  cases v with
  | nan => exact hn.elim
  | inf s =>
    have n1 : ("inf" : Str) = "inf" ∧ FmOk ⟨b, p, lo, hi⟩ := ⟨rfl, hf⟩
    walk_at "vi"
    exact h
  | num s c e =>
    have n1 : ("num" : Str) = "num" ∧ FmOk ⟨b, p, lo, hi⟩ ∧ NumOk ⟨b, p, lo, hi⟩ s c e := ⟨rfl, hf, hv⟩
    walk_at "vi"
    exact h
/-! value_at -/
def b_value_at : IS := .seq (.asg (.tup (.cons (.var 4) (.cons (.var 5) (.cons (.var 6) (.cons (.var 7) .nil))))) (.var 0)) (.seq (.asg (.var 2) (.call 0 (.cons (.var 4) (.cons (.bin .sub (.var 5) (.cst (.int 1))) .nil)))) (.seq (.asg (.tup (.cons (.var 8) (.cons (.var 9) (.cons (.var 10) .nil)))) (.tup (.cons (.bin .mul (.bin .sub (.var 4) (.cst (.int 1))) (.var 2)) (.cons (.blt .abs 0 (.cons (.var 1) .nil)) (.cons (.blt .int 0 (.cons (.cmp .lt (.var 1) (.cst (.int 0))) .nil)) .nil))))) (.seq (.asg (.var 3) (.ife (.cmp .ge (.var 9) (.var 2)) (.bin .fdiv (.bin .sub (.var 9) (.var 2)) (.var 8)) (.cst (.int 0)))) (.seq (.ifs (.cmp .le (.bin .add (.var 6) (.var 3)) (.var 7)) (.seq (.ret (.tup (.cons (.cst (.str (Str.ofString "num"))) (.cons (.var 10) (.cons (.bin .sub (.var 9) (.bin .mul (.var 3) (.var 8))) (.cons (.bin .add (.var 6) (.var 3)) .nil)))))) .skip) (.skip)) (.seq (.ret (.ife (.cmp .eq (.var 9) (.call 1 (.cons (.var 0) (.cons (.tup (.cons (.cst (.str (Str.ofString "inf"))) (.cons (.cst (.int 0)) .nil))) .nil)))) (.tup (.cons (.cst (.str (Str.ofString "inf"))) (.cons (.var 10) .nil))) (.cst .none))) .skip)))))
def tb_value_at : Tb := ⟨[((Str.ofString "whole_power"), 2, sp_whole_power), ((Str.ofString "rank_in"), 2, sp_rank_in)], []⟩
theorem tbm_value_at : tb_value_at.Mono := Tb.mono_of fun q hq => by
  simp only [tb_value_at, List.mem_cons, List.not_mem_nil, or_false] at hq
  rcases hq with rfl | rfl
  · exact mono_whole_power
  · exact mono_rank_in
def sp_value_at : Sem := fun vs g Q => match vs with
  | [.d (.tuple [.int b, .int p, .int lo, .int hi]), .d (.int r)] => (FmOk ⟨b, p, lo, hi⟩ ∧ Bd 1000 r) ∧ Q (.d (oD (atW ⟨b, p, lo, hi⟩ r))) g
  | _ => False
theorem mono_value_at : SemMono sp_value_at := by
  unfold sp_value_at
  walk_at "mono"
theorem pure_value_at : ∀ vs g Q, sp_value_at vs g Q → semF tb_value_at 11 b_value_at vs g Q := by
  intro vs g Q h
  unfold sp_value_at at h
  split at h
  · rename_i b p lo hi r
    obtain ⟨⟨hf, hr⟩, h⟩ := h
    rw [← atW_eq] at h
    obtain ⟨w1, w2⟩ := hf.pw
    have bT : Bd 640 (b ^ p.toNat) := hf.bdT
    have bF : Bd 640 (b ^ (p - 1).toNat) := hf.bdF
    have i1 := hf.b2
    have i2 := hf.b36
    have i3 := hf.l
    have i4 := hf.h
    have i5 := hf.lh
    have F1 : 1 ≤ b ^ (p - 1).toNat := hf.F_pos
    have W1 : 1 ≤ (b - 1) * b ^ (p - 1).toNat := hf.W_pos
    have TF : b ^ p.toNat = b ^ (p - 1).toNat + (b - 1) * b ^ (p - 1).toNat := hf.TF
    have inf : ("inf" : Str) = "inf" ∧ FmOk ⟨b, p, lo, hi⟩ := ⟨rfl, hf⟩
    simp only at i1 i2 i3 i4 i5
    have bb : Bd 6 (b - 1) := by unfold Bd; omega
    have one : Bd 64 (1 : Int) := Bd.lit64 1 (by omega)
    have b0 : (b - 1) * b ^ (p - 1).toNat ≠ 0 := by omega
    have b0' : b ^ (p - 1).toNat * (b - 1) ≠ 0 := by rw [Int.mul_comm]; exact b0
    have bh : Bd 12 (hi - lo) := by unfold Bd; omega
    have bl : Bd 12 lo := by unfold Bd; omega
    have rkx : rkV ⟨b, p, lo, hi⟩ (.inf 0) = Fm.X ⟨b, p, lo, hi⟩ := rfl
    have cm : b ^ (p - 1).toNat * (b - 1) = (b - 1) * b ^ (p - 1).toNat := Int.mul_comm _ _
    walk_at "vi"
    all_goals try refine Eq.mp (congrArg (fun z : D => Q (.d z) g) ?_) h
    all_goals try rw [rkx] at *
    all_goals first
      | (exfalso; omega)
      | (rw [atV_mid (f := ⟨b, p, lo, hi⟩) (by assumption) (by assumption)]; simp only [oD, vlD, sgn, decide_eq_true_eq, Fm.F, Fm.W]; done)
      | (rw [atV_inf (f := ⟨b, p, lo, hi⟩) (by assumption) (Int.not_le.mpr (by assumption)) (by assumption)]; simp only [oD, vlD, sgn, decide_eq_true_eq]; done)
      | (rw [atV_none (f := ⟨b, p, lo, hi⟩) (by assumption) (Int.not_le.mpr (by assumption)) (by assumption)]; rfl)
      | (rw [atV_lo (f := ⟨b, p, lo, hi⟩) (by assumption)]; simp only [oD, vlD, sgn, decide_eq_true_eq, Int.zero_mul, Int.sub_zero, Int.add_zero]; done)
      | trace_state
  · exact h.elim
/-! ranks_apart -/
def b_ranks_apart : IS := .seq (.ret (.ife (.cmp .eq (.var 1) (.glo 0)) (.cst (.int 0)) (.bin .sub (.call 0 (.cons (.var 0) (.cons (.ixc (.var 1) 2) .nil))) (.call 0 (.cons (.var 0) (.cons (.ixc (.var 1) 1) .nil)))))) .skip
def tb_ranks_apart : Tb := ⟨[((Str.ofString "rank_of"), 2, sp_rank_of)], [((Str.ofString "NONE"), .tuple [.str (Str.ofString "none")])]⟩
theorem tbm_ranks_apart : tb_ranks_apart.Mono := Tb.mono_of fun q hq => by
  simp only [tb_ranks_apart, List.mem_cons, List.not_mem_nil, or_false] at hq
  subst hq
  exact mono_rank_of
def sp_ranks_apart : Sem := fun vs g Q => ∃ f s, vs = [.d (fmD f), .d (spD s)] ∧ (FmOk f ∧ SpanOk f s) ∧ Q (.d (.int (apart f s))) g
theorem mono_ranks_apart : SemMono sp_ranks_apart := fun vs g Q Q' h ⟨f, s, e, a, q⟩ => ⟨f, s, e, a, h _ _ q⟩
theorem pure_ranks_apart : ∀ vs g Q, sp_ranks_apart vs g Q → semF tb_ranks_apart 2 b_ranks_apart vs g Q := by
  rintro _ g Q ⟨f, s, rfl, ⟨hf, hs⟩, h⟩
  cases s with
  | no =>
    walk_at "vp"
    all_goals first | exact h | trace_state
  | sp a b =>
    have o1 : FmOk f ∧ VlOk f a ∧ notNan a := ⟨hf, hs.a.ok, hs.a.nn⟩
    have o2 : FmOk f ∧ VlOk f b ∧ notNan b := ⟨hf, hs.b.ok, hs.b.nn⟩
    walk_at "vp"
    refine ⟨f, b, rfl, o2, ?_⟩
    walk_at "vp"
    refine ⟨f, a, rfl, o1, ?_⟩
    walk_at "vp"
    all_goals first | exact h | trace_state
/-! middle_of -/
def b_middle_of : IS := .seq (.ifs (.cmp .lt (.call 0 (.cons (.var 0) (.cons (.var 1) .nil))) (.cst (.int 2))) (.seq (.ret (.cst .none)) .skip) (.skip)) (.seq (.ret (.call 1 (.cons (.var 0) (.cons (.bin .fdiv (.bin .add (.call 2 (.cons (.var 0) (.cons (.ixc (.var 1) 1) .nil))) (.call 2 (.cons (.var 0) (.cons (.ixc (.var 1) 2) .nil)))) (.cst (.int 2))) .nil)))) .skip)
def tb_middle_of : Tb := ⟨[((Str.ofString "ranks_apart"), 2, sp_ranks_apart), ((Str.ofString "value_at"), 2, sp_value_at), ((Str.ofString "rank_of"), 2, sp_rank_of)], []⟩
theorem tbm_middle_of : tb_middle_of.Mono := Tb.mono_of fun q hq => by
  simp only [tb_middle_of, List.mem_cons, List.not_mem_nil, or_false] at hq
  rcases hq with rfl | rfl | rfl
  · exact mono_ranks_apart
  · exact mono_value_at
  · exact mono_rank_of
def sp_middle_of : Sem := fun vs g Q => ∃ f s, vs = [.d (fmD f), .d (spD s)] ∧ (FmOk f ∧ SpanOk f s) ∧ Q (.d (oD (midV f s))) g
theorem mono_middle_of : SemMono sp_middle_of := fun vs g Q Q' h ⟨f, s, e, a, q⟩ => ⟨f, s, e, a, h _ _ q⟩
theorem pure_middle_of : ∀ vs g Q, sp_middle_of vs g Q → semF tb_middle_of 2 b_middle_of vs g Q := by
  rintro _ g Q ⟨f, s, rfl, ⟨hf, hs⟩, h⟩
  walk_at "w"
  refine ⟨f, s, rfl, ⟨hf, hs⟩, ?_⟩
  cases s with
  | no =>
    have z : apart f .no = 0 := rfl
    rw [z]
    walk_at "vp"
    all_goals first | exact h | trace_state
  | sp a b =>
    have o1 : FmOk f ∧ VlOk f a ∧ notNan a := ⟨hf, hs.a.ok, hs.a.nn⟩
    have o2 : FmOk f ∧ VlOk f b ∧ notNan b := ⟨hf, hs.b.ok, hs.b.nn⟩
    have z : apart f (.sp a b) = rkV f b - rkV f a := rfl
    rw [z]
    rcases mid_end hf hs with ⟨e1, e2⟩ | ⟨e1, m, e2, k⟩
    · rw [e2] at h
      walk_at "vp"
      all_goals first | exact h | trace_state
    · have hm : midV f (.sp a b) = atV f ((rkV f a + rkV f b).fdiv 2) := if_neg (by omega)
      rw [hm, atW_eq] at h
      have b1 := hf.bdR hs.a.ok
      have b2 := hf.bdR hs.b.ok
      have b3 : Bd 1000 ((rkV f a + rkV f b).fdiv 2) := ((b1.add b2).fdiv).up (by decide)
      walk_at "vp"
      refine ⟨f, a, rfl, o1, ?_⟩
      walk_at "vp"
      refine ⟨f, b, rfl, o2, ?_⟩
      walk_at "w"
      refine And.intro ⟨by decide, by decide⟩ ?_
      walk_at "w"
      refine And.intro ⟨hf, b3⟩ ?_
      walk_at "w"
      exact h
/-! widest -/
def b_widest : IS := .seq (.asg (.tup (.cons (.var 2) (.cons (.var 3) .nil))) (.tup (.cons (.cst .none) (.cons (.cst (.int 1)) .nil)))) (.seq (.fr (.tup (.cons (.var 4) (.cons (.var 5) .nil))) (.enm (.cons (.var 1) .nil)) (.seq (.ifs (.cmp .gt (.call 0 (.cons (.var 0) (.cons (.var 5) .nil))) (.var 3)) (.seq (.asg (.tup (.cons (.var 2) (.cons (.var 3) .nil))) (.tup (.cons (.var 4) (.cons (.call 0 (.cons (.var 0) (.cons (.var 5) .nil))) .nil)))) .skip) (.skip)) .skip)) (.seq (.ret (.var 2)) .skip))
def tb_widest : Tb := ⟨[((Str.ofString "ranks_apart"), 2, sp_ranks_apart)], []⟩
theorem tbm_widest : tb_widest.Mono := Tb.mono_of fun q hq => by
  simp only [tb_widest, List.mem_cons, List.not_mem_nil, or_false] at hq
  subst hq
  exact mono_ranks_apart
def sp_widest : Sem := fun vs g Q => ∃ f ss, vs = [.d (fmD f), .d (boxD ss)] ∧ (FmOk f ∧ BoxOk f ss) ∧ ∀ o, WidTo f ss o → Q (.d (oNat o)) g
theorem mono_widest : SemMono sp_widest := fun vs g Q Q' h ⟨f, ss, e, a, q⟩ => ⟨f, ss, e, a, fun o w => h _ _ (q o w)⟩
theorem pure_widest : ∀ vs g Q, sp_widest vs g Q → semF tb_widest 6 b_widest vs g Q := by
  rintro _ g Q ⟨f, ss, rfl, ⟨hf, hs⟩, h⟩
  refine seq_cut tbm_widest (fun env st => env = [some (.d (fmD f)), some (.d (boxD ss)), some (.d .none), some (.d (.int 1)), none, none] ∧ st = ⟨g, []⟩) ?_ ?_
  · walk_at "vp"
    all_goals first | exact ⟨rfl, rfl⟩ | trace_state
  rintro _ _ ⟨rfl, rfl⟩
  refine fr_post tbm_widest ?_
  walk_at "w"
  refine ⟨fun i env st => ∃ o : Option Nat, ∃ m : Int, ∃ z4 z5, env = [some (.d (fmD f)), some (.d (boxD ss)), some (.d (oNat o)), some (.d (.int m)), z4, z5] ∧ st = ⟨g, []⟩ ∧ WidTo f (ss.take i) o ∧ WidM f (ss.take i) m o, ?_, ?_, ?_⟩
  · rintro i y _ _ hy ⟨o, m, z4, z5, rfl, rfl, hw, hm⟩
    obtain ⟨s, e, rfl⟩ : ∃ s, ss[i]? = some s ∧ y = .tuple [.int (i : Nat), spD s] := by
      rw [List.getElem?_mapIdx, List.getElem?_map] at hy
      cases q : ss[i]? with
      | none => rw [q] at hy; cases hy
      | some s => rw [q] at hy; cases hy; exact ⟨s, rfl, rfl⟩
    have so := hs.ok s (List.mem_of_getElem? e)
    obtain ⟨w1, w2⟩ := wid_step e hw hm
    walk_at "vp"
    refine ⟨f, s, rfl, ⟨hf, so⟩, ?_⟩
    walk_at "vp"
    · rename_i z
      refine ⟨f, s, rfl, ⟨hf, so⟩, ?_⟩
      obtain ⟨a, b⟩ := w1 z
      walk_at "vp"
      exact ⟨some i, apart f s, _, _, rfl, rfl, a, b⟩
    · rename_i z
      obtain ⟨a, b⟩ := w2 (by omega)
      exact ⟨o, m, _, _, rfl, rfl, a, b⟩
  · rintro _ _ ⟨o, m, z4, z5, rfl, rfl, hw, hm⟩
    have e : ss.take (List.mapIdx (fun i x => (PyData.tuple [.int (i : Nat), x] : D)) (ss.map spD)).length = ss := by simp
    walk_at "vp"
    refine h o ?_
    rw [← e]
    exact hw
  · exact ⟨none, 1, none, none, rfl, rfl, (fun s hs => by cases hs), rfl⟩
/-! parted_box -/
def b_parted_box : IS := .seq (.asg (.var 3) (.call 0 (.cons (.var 0) (.cons (.ix (.var 1) (.var 2)) .nil)))) (.seq (.ifs (.isN (.var 3)) (.seq (.ret (.cst .none)) .skip) (.skip)) (.seq (.asg (.tup (.cons (.var 4) (.cons (.var 5) (.cons (.var 6) .nil)))) (.ix (.var 1) (.var 2))) (.seq (.asg (.tup (.cons (.var 7) (.cons (.var 8) .nil))) (.tup (.cons (.tup (.cons (.cst (.str (Str.ofString "span"))) (.cons (.var 5) (.cons (.var 3) .nil)))) (.cons (.tup (.cons (.cst (.str (Str.ofString "span"))) (.cons (.var 3) (.cons (.var 6) .nil)))) .nil)))) (.seq (.ret (.tup (.cons (.tupS (.scons (.sl 0 (.var 1) (.nil) (.var 2)) (.cons (.var 7) (.scons (.sl 0 (.var 1) (.bin .add (.var 2) (.cst (.int 1))) (.nil)) (.nil))))) (.cons (.tupS (.scons (.sl 0 (.var 1) (.nil) (.var 2)) (.cons (.var 8) (.scons (.sl 0 (.var 1) (.bin .add (.var 2) (.cst (.int 1))) (.nil)) (.nil))))) .nil)))) .skip))))
def tb_parted_box : Tb := ⟨[((Str.ofString "middle_of"), 2, sp_middle_of)], []⟩
theorem tbm_parted_box : tb_parted_box.Mono := Tb.mono_of fun q hq => by
  simp only [tb_parted_box, List.mem_cons, List.not_mem_nil, or_false] at hq
  subst hq
  exact mono_middle_of
def sp_parted_box : Sem := fun vs g Q => ∃ f ss i s, vs = [.d (fmD f), .d (boxD ss), .d (.int (i : Nat))] ∧ (FmOk f ∧ BoxOk f ss ∧ ss[i]? = some s) ∧ Q (.d (partD f ss i s)) g
theorem mono_parted_box : SemMono sp_parted_box := fun vs g Q Q' h ⟨f, ss, i, s, e, a, q⟩ => ⟨f, ss, i, s, e, a, h _ _ q⟩
theorem pure_parted_box : ∀ vs g Q, sp_parted_box vs g Q → semF tb_parted_box 9 b_parted_box vs g Q := by
  rintro _ g Q ⟨f, ss, i, s, rfl, ⟨hf, hs, e⟩, h⟩
  have so := hs.ok s (List.mem_of_getElem? e)
  have hi : i < ss.length := (List.getElem?_eq_some_iff.mp e).1
  have ea : L2.atI (ss.map spD) (i : Int) = some (spD s) := L2.atI_nat (by rw [List.getElem?_map, e]; rfl)
  have c1 : cutD (ss.map spD) none (some (i : Int)) = (ss.take i).map spD := by rw [cut_to (by simp; omega), List.map_take]
  have c2 : cutD (ss.map spD) (some ((i : Int) + 1)) none = (ss.drop (i + 1)).map spD := by
    rw [show (i : Int) + 1 = ((i + 1 : Nat) : Int) by omega, cut_from (by simp; omega), List.map_drop]
  have hl := hs.len
  walk_at "w"
  rw [ea]
  walk_at "w"
  refine ⟨f, s, rfl, ⟨hf, so⟩, ?_⟩
  cases s with
  | no =>
    walk_at "vp"
    exact h
  | sp a b =>
    rcases mid_end hf so with ⟨_, em⟩ | ⟨_, m, em, k, l, _⟩
    · have h : Q (.d (match midV f (.sp a b) with
        | some m => .tuple [.tuple (((ss.take i ++ [Sp.sp a m]) ++ ss.drop (i + 1)).map spD), .tuple (((ss.take i ++ [Sp.sp m b]) ++ ss.drop (i + 1)).map spD)]
        | none => .none)) g := h
      rw [em] at h ⊢
      walk_at "vp"
      all_goals first | exact h | trace_state
    · have h : Q (.d (match midV f (.sp a b) with
        | some m => .tuple [.tuple (((ss.take i ++ [Sp.sp a m]) ++ ss.drop (i + 1)).map spD), .tuple (((ss.take i ++ [Sp.sp m b]) ++ ss.drop (i + 1)).map spD)]
        | none => .none)) g := h
      rw [em] at h ⊢
      have nm : isNonD (oD (some m)) = false := isNonD_o _
      walk_at "w"
      rw [nm]
      refine And.intro (fun z => nomatch z) (fun _ => ?_)
      walk_at "w"
      rw [ea]
      walk_at "w"
      refine And.intro rfl ?_
      walk_at "w"
      refine And.intro rfl ?_
      walk_at "w"
      rw [c1, c2]
      refine And.intro (by simp; omega) (allD_app ?_)
      walk_at "w"
      rw [List.append_nil]
      refine allD_map ?_
      walk_at "w"
      rw [c1, c2]
      refine And.intro (by simp; omega) (allD_app ?_)
      walk_at "w"
      rw [List.append_nil]
      refine allD_map ?_
      walk_at "w"
      refine Eq.mp (congrArg (fun z : D => Q (.d z) g) ?_) h
      simp
      exact ⟨rfl, rfl⟩
/-! _law_bag -/
def b_law_bag : IS := .seq (.ret (.lst 2 (.cons (.cst (.int 0)) (.cons (.cst (.int 1234567891)) (.cons (.cst (.int 0)) (.cons (.cmpr 0 [1] (.var 1) (.sl 0 (.var 0) (.nil) (.cst (.int 63))) (.nil) (.blt .abs 0 (.cons (.var 1) .nil))) .nil)))))) .skip
def tb_law_bag : Tb := ⟨[], []⟩
theorem tbm_law_bag : tb_law_bag.Mono := Tb.mono_of fun q hq => by
  simp only [tb_law_bag, List.mem_cons, List.not_mem_nil, or_false] at hq
def sp_law_bag : Sem := fun vs g Q => match vs with
  | [.sc xs] => (∃ ns : List Int, xs = ns.map PyData.int) ∧ ∀ bag, BagAt 0 bag → Q (.gm g.length) (g ++ [bag])
  | _ => False
theorem mono_law_bag : SemMono sp_law_bag := by
  unfold sp_law_bag
  intro vs g Q Q' h q
  revert q
  split
  · exact fun q => ⟨q.1, fun b hb => h _ _ (q.2 b hb)⟩
  · exact fun q => q.elim
theorem pure_law_bag : ∀ vs g Q, sp_law_bag vs g Q → semF tb_law_bag 2 b_law_bag vs g Q := by
  intro vs g Q h
  unfold sp_law_bag at h
  split at h
  · rename_i xs
    obtain ⟨⟨ns, rfl⟩, h⟩ := h
    walk_at "vi"
    · rw [cut_map]
      refine loopC_map (fun d => match d with
        | .int i => .int (i.natAbs : Int)
        | d => d) _ [] (fun x hx k' hk => ?_) ?_
      · obtain ⟨i, _, rfl⟩ := List.mem_map.mp hx
        exact hk
      · walk_at "vi"
        refine h _ ⟨0, 1234567891, 0, (cutD ns none (some 63)).map fun i => (i.natAbs : Int), ?_, by unfold Bd; omega, by omega, by omega, ?_⟩
        · simp [List.map_map, Function.comp_def]
        · rw [List.length_map]
          exact cut_le 63 ns
    · rw [cut_map, List.length_map]
      have : (cutD ns none (some 63)).length ≤ 63 := cut_le 63 ns
      omega
  · exact h.elim
/-! _law_take -/
def b_law_take : IS := .seq (.ifs (.cmp .eq (.ixc (.var 0) 0) (.cst (.int 0))) (.seq (.asg (.var 4) (.ixc (.bin .add (.sl 0 (.ixc (.var 0) 3) (.ixc (.var 0) 2) (.nil)) (.lst 0 (.cons (.cst (.int 0)) .nil))) 0)) (.seq (.augS .add (.var 0) (.cst (.int 2)) (.cst (.int 1))) (.seq (.ifs (.cmp .ge (.var 4) (.bin .pow (.cst (.int 10)) (.cst (.int 18)))) (.seq (.setI (.var 0) (.cst (.int 0)) (.var 4)) .skip) (.skip)) (.seq (.asg (.var 5) (.bin .add (.bin .add (.bin .mul (.ixc (.var 0) 1) (.cst (.int 48271))) (.bin .mod (.blt .int 0 (.cons (.var 4) .nil)) (.cst (.int 2147483647)))) (.bin .mul (.cst (.int 7919)) (.ixc (.var 0) 2)))) (.seq (.setI (.var 0) (.cst (.int 1)) (.bin .mod (.blt .int 0 (.cons (.var 5) .nil)) (.cst (.int 2147483647)))) .skip))))) (.skip)) (.seq (.ifs (.cmp .gt (.ixc (.var 0) 0) (.cst (.int 0))) (.seq (.asg (.var 6) (.bin .mod (.blt .int 0 (.cons (.ixc (.var 0) 0) .nil)) (.var 1))) (.seq (.setI (.var 0) (.cst (.int 0)) (.bin .fdiv (.blt .int 0 (.cons (.ixc (.var 0) 0) .nil)) (.var 1))) (.seq (.ret (.var 6)) .skip))) (.skip)) (.seq (.asg (.var 2) (.bin .mod (.blt .int 0 (.cons (.bin .mul (.bin .add (.ixc (.var 0) 1) (.cst (.int 1))) (.cst (.int 39373))) .nil)) (.cst (.int 1000000007)))) (.seq (.asg (.var 3) (.bin .mod (.blt .int 0 (.cons (.bin .mul (.bin .mod (.blt .int 0 (.cons (.bin .mul (.var 2) (.var 2)) .nil)) (.cst (.int 998244353))) (.cst (.int 30011))) .nil)) (.cst (.int 998244353)))) (.seq (.ret (.bin .mod (.blt .int 0 (.cons (.bin .fdiv (.var 3) (.cst (.int 7))) .nil)) (.var 1))) .skip))))
def tb_law_take : Tb := ⟨[], []⟩
theorem tbm_law_take : tb_law_take.Mono := Tb.mono_of fun q hq => by
  simp only [tb_law_take, List.mem_cons, List.not_mem_nil, or_false] at hq
def sp_law_take : Sem := fun vs g Q => match vs, g with
  | [.gm 0, .d (.int m)], xs :: gs => ∃ C, (BagAt C xs ∧ C < 2 ^ 62 ∧ 0 < m ∧ Bd 8000 m) ∧ ∀ v xs', 0 ≤ v → v < m → BagAt (C + 1) xs' → Q (.d (.int v)) (xs' :: gs)
  | _, _ => False
theorem mono_law_take : SemMono sp_law_take := by
  unfold sp_law_take
  intro vs g Q Q' h q
  revert q
  split
  · rintro ⟨C, a, b⟩
    exact ⟨C, a, fun v xs' h0 h1 h2 => h _ _ (b v xs' h0 h1 h2)⟩
  · exact fun q => q.elim
theorem take_cell (cs : List Int) (c : Int) (hc : 0 ≤ c) : ∃ z : Int, (cutD (cs.map PyData.int) (some c) none ++ [PyData.int 0])[0]? = some (PyData.int z) := by
  have : ∀ l : List Int, ∃ z : Int, ((l.map PyData.int) ++ [PyData.int 0])[0]? = some (PyData.int z) := fun l => by
    cases l with
    | nil => exact ⟨0, rfl⟩
    | cons a l => exact ⟨a, rfl⟩
  unfold cutD
  rw [← List.map_drop, ← List.map_take]
  exact this _
theorem pure_law_take : ∀ vs g Q, sp_law_take vs g Q → semF tb_law_take 7 b_law_take vs g Q := by
  intro vs g Q h
  unfold sp_law_take at h
  split at h
  · rename_i m xs gs
    obtain ⟨C, ⟨⟨a, b, c, cs, rfl, hb, hc, hC, hl⟩, hC2, hm, hbm⟩, h⟩ := h
    obtain ⟨z, hz⟩ := take_cell cs c hc
    have hbc : Bd 62 c := by
      unfold Bd
      omega
    have fin : ∀ (x : Int) (a b c : Int), Bd 31 b → 0 ≤ c → c ≤ (C : Int) + 1 → Q (.d (.int (x % m))) ([.int a, .int b, .int c, .list (cs.map PyData.int)] :: gs) := fun x a b c h1 h2 h3 =>
      h _ _ (Int.emod_nonneg _ (by omega)) (Int.emod_lt_of_pos _ hm) ⟨a, b, c, cs, rfl, h1, h2, by omega, hl⟩
    have hmod : ∀ x : Int, Bd 31 (x % 2147483647) := fun x => (Bd.emod (Bd.lit 2147483647) (by decide)).up (by decide)
    have hc1 : Bd 63 (c + 1) := (hbc.add (Bd.lit 1)).up (by decide)
    walk_at "vi"
    · rw [hz]
      walk_at "vi"
      all_goals first | exact fin _ _ _ _ (hmod _) (by omega) (by omega) | exact fin _ _ _ _ hb (by omega) (by omega) | skip
    all_goals first | exact fin _ _ _ _ hb (by omega) (by omega) | skip
    · have := cut_len (cs.map PyData.int) (some c) none
      rw [List.length_map] at this
      show (cutD (cs.map PyData.int) (some c) none).length + 1 ≤ 1000000
      omega
  · exact h.elim
/-! _law_some -/
def b_law_some : IS := .seq (.ret (.ix (.var 1) (.call 0 (.cons (.var 0) (.cons (.blt .len 0 (.cons (.var 1) .nil)) .nil))))) .skip
def tb_law_some : Tb := ⟨[((Str.ofString "_law_take"), 2, sp_law_take)], []⟩
theorem tbm_law_some : tb_law_some.Mono := Tb.mono_of fun q hq => by
  simp only [tb_law_some, List.mem_cons, List.not_mem_nil, or_false] at hq
  subst hq
  exact mono_law_take
def sp_law_some : Sem := fun vs g Q => match vs, g with
  | [.gm 0, .d (.list ys)], xs :: gs => ∃ C, (BagAt C xs ∧ C < 2 ^ 62 ∧ ys ≠ [] ∧ ys.length ≤ 1000000) ∧ ∀ y xs', y ∈ ys → BagAt (C + 1) xs' → Q (.d y) (xs' :: gs)
  | [.gm 0, .d (.tuple ys)], xs :: gs => ∃ C, (BagAt C xs ∧ C < 2 ^ 62 ∧ ys ≠ [] ∧ ys.length ≤ 1000000) ∧ ∀ y xs', y ∈ ys → BagAt (C + 1) xs' → Q (.d y) (xs' :: gs)
  | _, _ => False
theorem mono_law_some : SemMono sp_law_some := by
  unfold sp_law_some
  intro vs g Q Q' h q
  revert q
  split
  · rintro ⟨C, a, b⟩
    exact ⟨C, a, fun v xs' h0 h1 => h _ _ (b v xs' h0 h1)⟩
  · rintro ⟨C, a, b⟩
    exact ⟨C, a, fun v xs' h0 h1 => h _ _ (b v xs' h0 h1)⟩
  · exact fun q => q.elim
theorem atI_some {ys : List D} {v : Int} (h0 : 0 ≤ v) (h1 : v < ys.length) : ∃ y, L2.atI ys v = some y ∧ y ∈ ys := by
  obtain ⟨n, rfl⟩ : ∃ n : Nat, v = n := ⟨v.toNat, by omega⟩
  have hn : n < ys.length := by omega
  exact ⟨ys[n], L2.atI_nat (List.getElem?_eq_getElem hn), List.getElem_mem hn⟩
theorem pure_law_some : ∀ vs g Q, sp_law_some vs g Q → semF tb_law_some 2 b_law_some vs g Q := by
  intro vs g Q h
  unfold sp_law_some at h
  have len : ∀ ys : List D, ys ≠ [] → ys.length ≤ 1000000 → 0 < (ys.length : Int) ∧ Bd 8000 (ys.length : Int) := fun ys h0 h1 => by
    have : 0 < ys.length := List.length_pos_iff.mpr h0
    refine ⟨by omega, Bd.up (k := 64) (Bd.lit64 _ (by omega)) (by decide)⟩
  split at h
  · rename_i ys xs gs
    obtain ⟨C, ⟨hb, hC, hy, hl⟩, h⟩ := h
    obtain ⟨l1, l2⟩ := len ys hy hl
    walk_at "vi"
    refine ⟨C, ⟨hb, hC, l1, l2⟩, fun v xs' h0 h1 hb' => ?_⟩
    walk_at "vi"
    obtain ⟨y, e, hm⟩ := atI_some h0 h1
    rw [e]
    exact h y xs' hm hb'
  · rename_i ys xs gs
    obtain ⟨C, ⟨hb, hC, hy, hl⟩, h⟩ := h
    obtain ⟨l1, l2⟩ := len ys hy hl
    walk_at "vi"
    refine ⟨C, ⟨hb, hC, l1, l2⟩, fun v xs' h0 h1 hb' => ?_⟩
    walk_at "vi"
    obtain ⟨y, e, hm⟩ := atI_some h0 h1
    rw [e]
    exact h y xs' hm hb'
  · exact h.elim
/-! _law_alike -/
def b_law_alike : IS := .seq (.ret (.an (.cmp .eq (.var 0) (.var 1)) (.cmp .eq (.blt .repr 0 (.cons (.var 0) .nil)) (.blt .repr 0 (.cons (.var 1) .nil))))) .skip
def tb_law_alike : Tb := ⟨[], []⟩
theorem tbm_law_alike : tb_law_alike.Mono := Tb.mono_of fun q hq => by
  simp only [tb_law_alike, List.mem_cons, List.not_mem_nil, or_false] at hq
def sp_law_alike : Sem := fun vs g Q => match vs with
  | [.d x, .d y] => (x = y ∧ RepOk x) ∧ Q (.d (.bool true)) g
  | _ => False
theorem mono_law_alike : SemMono sp_law_alike := by
  unfold sp_law_alike
  walk_at "mono"
theorem pure_law_alike : ∀ vs g Q, sp_law_alike vs g Q → semF tb_law_alike 2 b_law_alike vs g Q := by
  intro vs g Q h
  unfold sp_law_alike at h
  split at h
  · rename_i x y
    obtain ⟨⟨rfl, hr⟩, h⟩ := h
    have e := eqv_self hr.1
    have ob : flatP x x = true ∨ Shp x ∧ Shp x := .inr ⟨hr.1, hr.1⟩
    walk_at "vi"
    · show Q (.d (.bool (PyData.eqv (.str _) (.str _)))) g
      rw [eqv_str, decide_eq_true rfl]
      exact h
    · rename_i hn
      rw [e] at hn
      cases hn
  · exact h.elim
/-! _law_common -/
def b_law_common : IS := .seq (.asg (.tup (.cons (.var 0) (.cons (.var 1) .nil))) (.tup (.cons (.blt .abs 0 (.cons (.var 0) .nil)) (.cons (.blt .abs 0 (.cons (.var 1) .nil)) .nil)))) (.seq (.whl (.cmp .gt (.var 1) (.cst (.int 0))) (.seq (.asg (.tup (.cons (.var 0) (.cons (.var 1) .nil))) (.tup (.cons (.var 1) (.cons (.bin .mod (.blt .int 0 (.cons (.var 0) .nil)) (.var 1)) .nil)))) .skip)) (.seq (.ret (.var 0)) .skip))
def tb_law_common : Tb := ⟨[], []⟩
theorem tbm_law_common : tb_law_common.Mono := Tb.mono_of fun q hq => by
  simp only [tb_law_common, List.mem_cons, List.not_mem_nil, or_false] at hq
def sp_law_common : Sem := fun vs g Q => match vs with
  | [.d (.int a), .d (.int b)] => Q (.d (.int (Int.gcd a b : Int))) g
  | _ => False
theorem mono_law_common : SemMono sp_law_common := by
  unfold sp_law_common
  walk_at "mono"
theorem pure_law_common : ∀ vs g Q, sp_law_common vs g Q → semF tb_law_common 2 b_law_common vs g Q := by
  intro vs g Q h
  unfold sp_law_common at h
  split at h
  · rename_i a b
    walk_at "vi"
    refine ⟨fun m env st => ∃ x y : Nat, env = [some (.d (.int x)), some (.d (.int y))] ∧ st = ⟨g, []⟩ ∧ m = y ∧ Nat.gcd x y = Int.gcd a b, ⟨_, a.natAbs, b.natAbs, rfl, rfl, rfl, rfl⟩, ?_⟩
    rintro m _ _ ⟨x, y, rfl, rfl, rfl, hg⟩
    walk_at "vi"
    · refine ⟨x % m, ?_, m, x % m, ?_, rfl, rfl, ?_⟩
      · exact Nat.mod_lt _ (by omega)
      · simp [put]
      · rw [← hg, Nat.gcd_comm x m, Nat.gcd_rec m x, Nat.gcd_comm]
    · have e0 : m = 0 := by omega
      subst e0
      rw [Nat.gcd_zero_right] at hg
      rw [hg]
      exact h
  · exact h.elim
/-! _law_to -/
def b_law_to : IS := .seq (.asg (.tup (.cons (.var 2) (.cons (.var 3) .nil))) (.tup (.cons (.cst (.int 1)) (.cons (.var 0) .nil)))) (.seq (.whl (.cmp .gt (.var 1) (.cst (.int 0))) (.seq (.ifs (.cmp .eq (.bin .mod (.blt .int 0 (.cons (.var 1) .nil)) (.cst (.int 2))) (.cst (.int 1))) (.seq (.asg (.var 2) (.bin .mul (.var 2) (.var 3))) .skip) (.skip)) (.seq (.asg (.tup (.cons (.var 3) (.cons (.var 1) .nil))) (.tup (.cons (.bin .mul (.var 3) (.var 3)) (.cons (.bin .fdiv (.blt .int 0 (.cons (.var 1) .nil)) (.cst (.int 2))) .nil)))) .skip))) (.seq (.ret (.var 2)) .skip))
def tb_law_to : Tb := ⟨[], []⟩
theorem tbm_law_to : tb_law_to.Mono := Tb.mono_of fun q hq => by
  simp only [tb_law_to, List.mem_cons, List.not_mem_nil, or_false] at hq
def sp_law_to : Sem := fun vs g Q => match vs with
  | [.d (.int b), .d (.int e)] => (∃ k, Bd k b ∧ 0 ≤ e ∧ k * (4 * e.toNat + 4) ≤ 900000) ∧ Q (.d (.int (b ^ e.toNat))) g
  | _ => False
theorem mono_law_to : SemMono sp_law_to := by
  unfold sp_law_to
  walk_at "mono"
theorem pure_law_to : ∀ vs g Q, sp_law_to vs g Q → semF tb_law_to 4 b_law_to vs g Q := by
  intro vs g Q h
  unfold sp_law_to at h
  split at h
  · rename_i b e
    obtain ⟨⟨k, hk, he, hb⟩, h⟩ := h
    walk_at "vi"
    refine ⟨fun m env st => ∃ (p r e' : Nat), env = [some (.d (.int b)), some (.d (.int e')), some (.d (.int (b ^ r))), some (.d (.int (b ^ p)))] ∧ st = ⟨g, []⟩ ∧ e' = m ∧ r + p * e' = e.toNat ∧ 1 ≤ p, ⟨_, 1, 0, e.toNat, ?_, rfl, rfl, by omega, by omega⟩, ?_⟩
    · simp [put, Int.toNat_of_nonneg he, Int.pow_succ]
    rintro m _ _ ⟨p, r, e', rfl, rfl, rfl, hs, hp⟩
    have ok : 0 < e' → ∀ x y, x ≤ e.toNat → y ≤ e.toNat → MulOk (b ^ x) (b ^ y) := fun h0 x y hx hy => by
      have h1 := Nat.mul_le_mul_left k hx
      have h2 := Nat.mul_le_mul_left k hy
      rw [Nat.mul_add, ← Nat.mul_assoc, Nat.mul_comm k 4, Nat.mul_assoc] at hb
      exact (hk.pow x).mulOk (hk.pow y) (by omega)
    have hpe : 0 < e' → p ≤ p * e' := fun h0 => Nat.le_mul_of_pos_right p h0
    walk_at "vi"
    · rename_i h0 h1
      obtain ⟨q, rfl⟩ : ∃ q, e' = 2 * q + 1 := ⟨e' / 2, by omega⟩
      refine ⟨q, by omega, 2 * p, r + p, q, ?_, rfl, rfl, by rw [← hs]; grind, by omega⟩
      have e1 : (2 * q + 1 : Nat) / 2 = q := by omega
      simp only [put]
      rw [Int.fdiv_eq_ediv_of_nonneg _ (by decide), show ((2 * q + 1 : Nat) : Int) / 2 = (q : Int) by omega, ← Int.pow_add, ← Int.pow_add, Nat.two_mul]
    · exact ok (by omega) _ _ (by have := hpe (by omega); omega) (by have := hpe (by omega); omega)
    · exact ok (by omega) _ _ (by omega) (by have := hpe (by omega); omega)
    · rename_i h0 h1
      obtain ⟨q, rfl⟩ : ∃ q, e' = 2 * q := ⟨e' / 2, by omega⟩
      refine ⟨q, by omega, 2 * p, r, q, ?_, rfl, rfl, by rw [← hs]; grind, by omega⟩
      simp only [put]
      rw [Int.fdiv_eq_ediv_of_nonneg _ (by decide), show ((2 * q : Nat) : Int) / 2 = (q : Int) by omega, ← Int.pow_add, Nat.two_mul]
    · exact ok (by omega) _ _ (by have := hpe (by omega); omega) (by have := hpe (by omega); omega)
    · rename_i h0
      have e0 : e' = 0 := by omega
      subst e0
      have hr : r = e.toNat := by omega
      rw [hr]
      exact h
  · exact h.elim
/-! _law_over -/
def b_law_over : IS := .seq (.asg (.var 2) (.call 0 (.cons (.var 0) (.cons (.var 1) .nil)))) (.seq (.asg (.var 2) (.ife (.cmp .gt (.var 1) (.cst (.int 0))) (.var 2) (.neg (.var 2)))) (.seq (.ret (.tup (.cons (.bin .fdivw (.blt .int 0 (.cons (.var 0) .nil)) (.var 2)) (.cons (.bin .fdivw (.blt .int 0 (.cons (.var 1) .nil)) (.var 2)) .nil)))) .skip))
def tb_law_over : Tb := ⟨[((Str.ofString "_law_common"), 2, sp_law_common)], []⟩
theorem tbm_law_over : tb_law_over.Mono := Tb.mono_of fun q hq => by
  simp only [tb_law_over, List.mem_cons, List.not_mem_nil, or_false] at hq
  subst hq
  exact mono_law_common
def sp_law_over : Sem := fun vs g Q => match vs with
  | [.d (.int n), .d (.int d)] => RedOk n d ∧ Q (.d (dF (nrm n d))) g
  | _ => False
theorem mono_law_over : SemMono sp_law_over := by
  unfold sp_law_over
  walk_at "mono"
theorem pure_law_over : ∀ vs g Q, sp_law_over vs g Q → semF tb_law_over 3 b_law_over vs g Q := by
  intro vs g Q h
  unfold sp_law_over at h
  split at h
  · rename_i n d
    obtain ⟨hr, h⟩ := h
    have h0 := hr.ne
    obtain ⟨d1, d2⟩ := hr.dv (g := (Int.gcd n d : Int)) (Int.natAbs_natCast _)
    obtain ⟨d3, d4⟩ := hr.dv (g := -(Int.gcd n d : Int)) (by rw [Int.natAbs_neg, Int.natAbs_natCast])
    unfold nrm dF at h
    walk_at "vi"
    · rename_i hp
      rw [if_pos hp] at h
      exact h
    · rename_i hp
      rw [if_neg (by omega)] at h
      exact h
  · exact h.elim
/-! _law_multiplied -/
def b_law_multiplied : IS := .seq (.ret (.call 0 (.cons (.bin .mul (.ixc (.var 0) 0) (.ixc (.var 1) 0)) (.cons (.bin .mul (.ixc (.var 0) 1) (.ixc (.var 1) 1)) .nil)))) .skip
def tb_law_multiplied : Tb := ⟨[((Str.ofString "_law_over"), 2, sp_law_over)], []⟩
theorem tbm_law_multiplied : tb_law_multiplied.Mono := Tb.mono_of fun q hq => by
  simp only [tb_law_multiplied, List.mem_cons, List.not_mem_nil, or_false] at hq
  subst hq
  exact mono_law_over
def sp_law_multiplied : Sem := fun vs g Q => ∃ x y k l, vs = [.d (dF x), .d (dF y)] ∧ (Fb k x ∧ Fb l y ∧ k + l ≤ 900000 ∧ Bd 8990 (x.2 * y.2)) ∧ Q (.d (dF (mulP x y))) g
theorem mono_law_multiplied : SemMono sp_law_multiplied := fun vs g Q Q' h ⟨x, y, k, l, e, a, q⟩ => ⟨x, y, k, l, e, a, h _ _ q⟩
theorem pure_law_multiplied : ∀ vs g Q, sp_law_multiplied vs g Q → semF tb_law_multiplied 2 b_law_multiplied vs g Q := by
  rintro _ g Q ⟨⟨x1, x2⟩, ⟨y1, y2⟩, k, l, rfl, ⟨hx, hy, hk, hm⟩, h⟩
  have m1 : MulOk x1 y1 := hx.b1.mulOk hy.b1 (by omega)
  have m2 : MulOk x2 y2 := hx.b2.mulOk hy.b2 (by omega)
  have n1 : RedOk (x1 * y1) (x2 * y2) := .inl ⟨mul_ne hx.ne hy.ne, hm⟩
  walk_at "vi"
  all_goals first | exact h | trace_state
/-! _law_is_below -/
def b_law_is_below : IS := .seq (.ret (.cmp .lt (.bin .mul (.ixc (.var 0) 0) (.ixc (.var 1) 1)) (.bin .mul (.ixc (.var 1) 0) (.ixc (.var 0) 1)))) .skip
def tb_law_is_below : Tb := ⟨[], []⟩
theorem tbm_law_is_below : tb_law_is_below.Mono := Tb.mono_of fun q hq => by
  simp only [tb_law_is_below, List.mem_cons, List.not_mem_nil, or_false] at hq
def sp_law_is_below : Sem := fun vs g Q => ∃ x y k l, vs = [.d (dF x), .d (dF y)] ∧ (Fb k x ∧ Fb l y ∧ k + l < 1000000) ∧ Q (.d (.bool (decide (x.1 * y.2 < y.1 * x.2)))) g
theorem mono_law_is_below : SemMono sp_law_is_below := fun vs g Q Q' h ⟨x, y, k, l, e, a, q⟩ => ⟨x, y, k, l, e, a, h _ _ q⟩
theorem pure_law_is_below : ∀ vs g Q, sp_law_is_below vs g Q → semF tb_law_is_below 2 b_law_is_below vs g Q := by
  rintro _ g Q ⟨⟨x1, x2⟩, ⟨y1, y2⟩, k, l, rfl, ⟨hx, hy, hk⟩, h⟩
  have m1 : MulOk x1 y2 := hx.b1.mulOk hy.b2 (by omega)
  have m2 : MulOk y1 x2 := hy.b1.mulOk hx.b2 (by omega)
  walk_at "vi"
  all_goals first | exact h | trace_state
/-! _law_power -/
def b_law_power : IS := .seq (.ret (.ife (.cmp .ge (.var 1) (.cst (.int 0))) (.tup (.cons (.call 0 (.cons (.var 0) (.cons (.var 1) .nil))) (.cons (.cst (.int 1)) .nil))) (.tup (.cons (.cst (.int 1)) (.cons (.call 0 (.cons (.var 0) (.cons (.neg (.var 1)) .nil))) .nil))))) .skip
def tb_law_power : Tb := ⟨[((Str.ofString "_law_to"), 2, sp_law_to)], []⟩
theorem tbm_law_power : tb_law_power.Mono := Tb.mono_of fun q hq => by
  simp only [tb_law_power, List.mem_cons, List.not_mem_nil, or_false] at hq
  subst hq
  exact mono_law_to
def sp_law_power : Sem := fun vs g Q => match vs with
  | [.d (.int b), .d (.int e)] => (2 ≤ b ∧ b ≤ 36 ∧ e.natAbs ≤ 27000) ∧ Q (.d (dF (powP b e))) g
  | _ => False
theorem mono_law_power : SemMono sp_law_power := by
  unfold sp_law_power
  walk_at "mono"
theorem pure_law_power : ∀ vs g Q, sp_law_power vs g Q → semF tb_law_power 2 b_law_power vs g Q := by
  intro vs g Q h
  unfold sp_law_power at h
  split at h
  · rename_i b e
    obtain ⟨⟨h1, h2, h3⟩, h⟩ := h
    have bb : Bd 6 b := by unfold Bd; omega
    have h3 : -27000 ≤ e ∧ e ≤ 27000 := by omega
    have n1 : 0 ≤ e → ∃ k, Bd k b ∧ 0 ≤ e ∧ k * (4 * e.toNat + 4) ≤ 900000 := fun q => ⟨6, bb, q, by omega⟩
    have n2 : ¬ 0 ≤ e → ∃ k, Bd k b ∧ 0 ≤ -e ∧ k * (4 * (-e).toNat + 4) ≤ 900000 := fun q => ⟨6, bb, by omega, by omega⟩
    unfold powP at h
    walk_at "vi"
    · rw [if_pos (by assumption)] at h
      exact h
    · exact n1 (by omega)
    · rw [if_neg (by omega)] at h
      exact h
    · exact n2 (by omega)
  · exact h.elim
/-! _law_worth -/
def b_law_worth : IS := .seq (.asg (.var 2) (.call 0 (.cons (.tup (.cons (.ixc (.var 1) 2) (.cons (.cst (.int 1)) .nil))) (.cons (.call 1 (.cons (.ixc (.var 0) 0) (.cons (.ixc (.var 1) 3) .nil))) .nil)))) (.seq (.ret (.ife (.cmp .eq (.ixc (.var 1) 1) (.cst (.int 1))) (.tup (.cons (.neg (.ixc (.var 2) 0)) (.cons (.ixc (.var 2) 1) .nil))) (.var 2))) .skip)
def tb_law_worth : Tb := ⟨[((Str.ofString "_law_multiplied"), 2, sp_law_multiplied), ((Str.ofString "_law_power"), 2, sp_law_power)], []⟩
theorem tbm_law_worth : tb_law_worth.Mono := Tb.mono_of fun q hq => by
  simp only [tb_law_worth, List.mem_cons, List.not_mem_nil, or_false] at hq
  rcases hq with rfl | rfl
  · exact mono_law_multiplied
  · exact mono_law_power
def sp_law_worth : Sem := fun vs g Q => match vs with
  | [.d (.tuple [.int b, .int p, .int lo, .int hi]), .d (.tuple [.str t, .int s, .int c, .int e])] => (2 ≤ b ∧ b ≤ 36 ∧ PB b e ∧ Bd 700 c) ∧ Q (.d (dF (wv b s c e))) g
  | _ => False
theorem mono_law_worth : SemMono sp_law_worth := by
  unfold sp_law_worth
  walk_at "mono"
theorem pure_law_worth : ∀ vs g Q, sp_law_worth vs g Q → semF tb_law_worth 3 b_law_worth vs g Q := by
  intro vs g Q h
  unfold sp_law_worth at h
  split at h
  · rename_i b p lo hi t s c e
    obtain ⟨⟨h1, h2, h3, h4⟩, h⟩ := h
    obtain ⟨h3, p1, p2⟩ := h3
    have pc := (powP_can h1 e).pos
    have p0 : (powP b e).2 ≠ 0 := by omega
    have n1 : 2 ≤ b ∧ b ≤ 36 ∧ e.natAbs ≤ 27000 := ⟨h1, h2, h3⟩
    have one : Bd 64 (1 : Int) := Bd.lit64 1 (by omega)
    unfold wv mulP at h
    have one8 : Bd 8990 (1 * (powP b e).2) := by
      rw [Int.one_mul]
      exact p2.up (by decide)
    walk_at "vi"
    refine ⟨(c, 1), powP b e, 700, 7930, rfl, ⟨Fb.int (k := 699) h4, ⟨pc, p1, p2⟩, by decide, one8⟩, ?_⟩
    unfold mulP
    walk_at "vi"
    all_goals first
      | (rw [if_pos (by assumption)] at h; exact h)
      | (rw [if_neg (by assumption)] at h; exact h)
      | trace_state
  · exact h.elim
/-! _law_formats -/
def b_law_formats : IS := .seq (.asg (.var 1) (.lst 0 (.cons (.tup (.cons (.cst (.int 2)) (.cons (.cst (.int 2)) (.cons (.cst (.int 0)) (.cons (.cst (.int 0)) .nil))))) (.cons (.tup (.cons (.cst (.int 2)) (.cons (.cst (.int 2)) (.cons (.neg (.cst (.int 3))) (.cons (.cst (.int 2)) .nil))))) (.cons (.tup (.cons (.cst (.int 2)) (.cons (.cst (.int 3)) (.cons (.neg (.cst (.int 4))) (.cons (.cst (.int 3)) .nil))))) (.cons (.tup (.cons (.cst (.int 4)) (.cons (.cst (.int 2)) (.cons (.neg (.cst (.int 2))) (.cons (.cst (.int 1)) .nil))))) (.cons (.tup (.cons (.cst (.int 10)) (.cons (.cst (.int 2)) (.cons (.neg (.cst (.int 2))) (.cons (.cst (.int 1)) .nil))))) (.cons (.tup (.cons (.cst (.int 6)) (.cons (.cst (.int 2)) (.cons (.neg (.cst (.int 1))) (.cons (.cst (.int 2)) .nil))))) (.cons (.tup (.cons (.cst (.int 2)) (.cons (.cst (.int 4)) (.cons (.neg (.cst (.int 2))) (.cons (.cst (.int 2)) .nil))))) .nil))))))))) (.seq (.ret (.call 0 (.cons (.var 0) (.cons (.bin .add (.var 1) (.lst 0 (.cons (.tup (.cons (.cst (.int 4)) (.cons (.cst (.int 2)) (.cons (.cst (.int 1)) (.cons (.cst (.int 3)) .nil))))) (.cons (.tup (.cons (.cst (.int 2)) (.cons (.cst (.int 3)) (.cons (.cst (.int 2)) (.cons (.cst (.int 5)) .nil))))) (.cons (.tup (.cons (.cst (.int 10)) (.cons (.cst (.int 2)) (.cons (.neg (.cst (.int 6))) (.cons (.neg (.cst (.int 5))) .nil))))) .nil))))) .nil)))) .skip)
def tb_law_formats : Tb := ⟨[((Str.ofString "_law_some"), 2, sp_law_some)], []⟩
theorem tbm_law_formats : tb_law_formats.Mono := Tb.mono_of fun q hq => by
  simp only [tb_law_formats, List.mem_cons, List.not_mem_nil, or_false] at hq
  subst hq
  exact mono_law_some
def sp_law_formats : Sem := fun vs g Q => match vs, g with
  | [.gm 0], xs :: gs => ∃ C, (BagAt C xs ∧ C < 2 ^ 61) ∧ ∀ f xs', f ∈ fmS → BagAt (C + 1) xs' → Q (.d (fmD f)) (xs' :: gs)
  | _, _ => False
theorem mono_law_formats : SemMono sp_law_formats := by
  unfold sp_law_formats
  intro vs g Q Q' h q
  revert q
  split
  · rintro ⟨C, a, b⟩
    exact ⟨C, a, fun f xs' h0 h1 => h _ _ (b f xs' h0 h1)⟩
  · exact fun q => q.elim
theorem pure_law_formats : ∀ vs g Q, sp_law_formats vs g Q → semF tb_law_formats 2 b_law_formats vs g Q := by
  intro vs g Q h
  unfold sp_law_formats at h
  split at h
  · rename_i xs gs
    obtain ⟨C, ⟨hb, hC⟩, h⟩ := h
    walk_at "vi"
    refine ⟨C, ⟨hb, by omega, by simp, by decide⟩, fun y xs' hy hb' => ?_⟩
    obtain ⟨f, rfl, hf⟩ := mem_fm (l := fmS) hy
    exact h f xs' hf hb'
  · exact h.elim
/-! _law_wide_format -/
def b_law_wide_format : IS := .seq (.asg (.var 1) (.lst 0 (.cons (.tup (.cons (.cst (.int 2)) (.cons (.cst (.int 24)) (.cons (.neg (.cst (.int 149))) (.cons (.cst (.int 104)) .nil))))) (.cons (.tup (.cons (.cst (.int 2)) (.cons (.cst (.int 11)) (.cons (.neg (.cst (.int 24))) (.cons (.cst (.int 5)) .nil))))) (.cons (.tup (.cons (.cst (.int 10)) (.cons (.cst (.int 7)) (.cons (.neg (.cst (.int 101))) (.cons (.cst (.int 90)) .nil))))) (.cons (.tup (.cons (.cst (.int 36)) (.cons (.cst (.int 3)) (.cons (.neg (.cst (.int 5))) (.cons (.cst (.int 4)) .nil))))) (.cons (.tup (.cons (.cst (.int 16)) (.cons (.cst (.int 6)) (.cons (.neg (.cst (.int 70))) (.cons (.cst (.int 57)) .nil))))) (.cons (.tup (.cons (.cst (.int 10)) (.cons (.cst (.int 34)) (.cons (.neg (.cst (.int 60))) (.cons (.cst (.int 40)) .nil))))) .nil)))))))) (.seq (.asg (.var 1) (.bin .add (.var 1) (.lst 0 (.cons (.tup (.cons (.cst (.int 2)) (.cons (.cst (.int 8)) (.cons (.neg (.cst (.int 133))) (.cons (.cst (.int 120)) .nil))))) (.cons (.tup (.cons (.cst (.int 20)) (.cons (.cst (.int 2)) (.cons (.cst (.int 0)) (.cons (.cst (.int 3)) .nil))))) (.cons (.tup (.cons (.cst (.int 10)) (.cons (.cst (.int 16)) (.cons (.neg (.cst (.int 98))) (.cons (.cst (.int 69)) .nil))))) (.cons (.tup (.cons (.cst (.int 2)) (.cons (.cst (.int 53)) (.cons (.neg (.cst (.int 120))) (.cons (.cst (.int 60)) .nil))))) (.cons (.tup (.cons (.cst (.int 10)) (.cons (.cst (.int 20)) (.cons (.cst (.int 5)) (.cons (.cst (.int 60)) .nil))))) .nil)))))))) (.seq (.asg (.var 1) (.bin .add (.var 1) (.lst 0 (.cons (.tup (.cons (.cst (.int 2)) (.cons (.cst (.int 30)) (.cons (.neg (.cst (.int 90))) (.cons (.neg (.cst (.int 40))) .nil))))) (.cons (.tup (.cons (.cst (.int 14)) (.cons (.cst (.int 5)) (.cons (.neg (.cst (.int 9))) (.cons (.cst (.int 9)) .nil))))) (.cons (.tup (.cons (.cst (.int 22)) (.cons (.cst (.int 4)) (.cons (.cst (.int 1)) (.cons (.cst (.int 8)) .nil))))) .nil)))))) (.seq (.asg (.var 2) (.lst 0 (.cons (.tup (.cons (.cst (.int 2)) (.cons (.cst (.int 53)) (.cons (.neg (.cst (.int 1074))) (.cons (.cst (.int 971)) .nil))))) (.cons (.tup (.cons (.cst (.int 10)) (.cons (.cst (.int 16)) (.cons (.neg (.cst (.int 398))) (.cons (.cst (.int 369)) .nil))))) (.cons (.tup (.cons (.cst (.int 36)) (.cons (.cst (.int 120)) (.cons (.neg (.cst (.int 200))) (.cons (.cst (.int 200)) .nil))))) (.cons (.tup (.cons (.cst (.int 2)) (.cons (.cst (.int 120)) (.cons (.neg (.cst (.int 1200))) (.cons (.cst (.int 1080)) .nil))))) (.cons (.tup (.cons (.cst (.int 10)) (.cons (.cst (.int 100)) (.cons (.neg (.cst (.int 700))) (.cons (.cst (.int 700)) .nil))))) .nil))))))) (.seq (.asg (.var 2) (.bin .add (.var 2) (.lst 0 (.cons (.tup (.cons (.cst (.int 2)) (.cons (.cst (.int 24)) (.cons (.neg (.cst (.int 1200))) (.cons (.cst (.int 1200)) .nil))))) (.cons (.tup (.cons (.cst (.int 2)) (.cons (.cst (.int 40)) (.cons (.neg (.cst (.int 300))) (.cons (.cst (.int 300)) .nil))))) (.cons (.tup (.cons (.cst (.int 10)) (.cons (.cst (.int 16)) (.cons (.neg (.cst (.int 300))) (.cons (.cst (.int 300)) .nil))))) .nil)))))) (.seq (.ret (.call 0 (.cons (.var 0) (.cons (.ife (.cmp .gt (.call 1 (.cons (.var 0) (.cons (.cst (.int 4)) .nil))) (.cst (.int 0))) (.var 1) (.var 2)) .nil)))) .skip)))))
def tb_law_wide_format : Tb := ⟨[((Str.ofString "_law_some"), 2, sp_law_some), ((Str.ofString "_law_take"), 2, sp_law_take)], []⟩
theorem tbm_law_wide_format : tb_law_wide_format.Mono := Tb.mono_of fun q hq => by
  simp only [tb_law_wide_format, List.mem_cons, List.not_mem_nil, or_false] at hq
  rcases hq with rfl | rfl
  · exact mono_law_some
  · exact mono_law_take
def sp_law_wide_format : Sem := fun vs g Q => match vs, g with
  | [.gm 0], xs :: gs => ∃ C, (BagAt C xs ∧ C < 2 ^ 61) ∧ ∀ f xs', f ∈ fmA → BagAt (C + 2) xs' → Q (.d (fmD f)) (xs' :: gs)
  | _, _ => False
theorem mono_law_wide_format : SemMono sp_law_wide_format := by
  unfold sp_law_wide_format
  intro vs g Q Q' h q
  revert q
  split
  · rintro ⟨C, a, b⟩
    exact ⟨C, a, fun f xs' h0 h1 => h _ _ (b f xs' h0 h1)⟩
  · exact fun q => q.elim
theorem pure_law_wide_format : ∀ vs g Q, sp_law_wide_format vs g Q → semF tb_law_wide_format 3 b_law_wide_format vs g Q := by
  intro vs g Q h
  unfold sp_law_wide_format at h
  split at h
  · rename_i xs gs
    obtain ⟨C, ⟨hb, hC⟩, h⟩ := h
    walk_at "vi"
    refine ⟨C, ⟨hb, by omega, by decide, Bd.up (k := 64) (by walk_at "bd") (by decide)⟩, fun v x1 h0 h1 hb1 => ?_⟩
    walk_at "vi"
    · refine ⟨C + 1, ⟨hb1, by omega, by simp, by decide⟩, fun y xs' hy hb' => ?_⟩
      obtain ⟨f, rfl, hf⟩ := mem_fm (l := fmW) hy
      exact h f xs' (fmW_A hf) hb'
    · refine ⟨C + 1, ⟨hb1, by omega, by simp, by decide⟩, fun y xs' hy hb' => ?_⟩
      obtain ⟨f, rfl, hf⟩ := mem_fm (l := fmV) hy
      exact h f xs' (fmV_A hf) hb'
  · exact h.elim
/-! _law_any_format -/
def b_law_any_format : IS := .seq (.ret (.ife (.cmp .gt (.call 0 (.cons (.var 0) (.cons (.cst (.int 3)) .nil))) (.cst (.int 0))) (.call 1 (.cons (.var 0) .nil)) (.call 2 (.cons (.var 0) .nil)))) .skip
def tb_law_any_format : Tb := ⟨[((Str.ofString "_law_take"), 2, sp_law_take), ((Str.ofString "_law_formats"), 1, sp_law_formats), ((Str.ofString "_law_wide_format"), 1, sp_law_wide_format)], []⟩
theorem tbm_law_any_format : tb_law_any_format.Mono := Tb.mono_of fun q hq => by
  simp only [tb_law_any_format, List.mem_cons, List.not_mem_nil, or_false] at hq
  rcases hq with rfl | rfl | rfl
  · exact mono_law_take
  · exact mono_law_formats
  · exact mono_law_wide_format
def sp_law_any_format : Sem := fun vs g Q => ∃ xs gs, vs = [.gm 0] ∧ g = xs :: gs ∧ ∃ C, (BagAt C xs ∧ C < 2 ^ 60) ∧ ∀ f xs', f ∈ fmA → BagAt (C + 3) xs' → Q (.d (fmD f)) (xs' :: gs)
theorem mono_law_any_format : SemMono sp_law_any_format := fun vs g Q Q' h ⟨xs, gs, e, e', C, a, q⟩ => ⟨xs, gs, e, e', C, a, fun f xs' h1 h2 => h _ _ (q f xs' h1 h2)⟩
theorem pure_law_any_format : ∀ vs g Q, sp_law_any_format vs g Q → semF tb_law_any_format 1 b_law_any_format vs g Q := by
  rintro _ _ Q ⟨xs, gs, rfl, rfl, C, ⟨hb, hC⟩, h⟩
  walk_at "vi"
  refine ⟨C, ⟨hb, by omega, by decide, Bd.up (k := 64) (by walk_at "bd") (by decide)⟩, fun v x1 h0 h1 hb1 => ?_⟩
  walk_at "vi"
  · refine ⟨C + 1, ⟨hb1, by omega⟩, fun f xs' hf hb' => ?_⟩
    exact h f xs' (fmS_A hf) (hb'.up (by omega))
  · refine ⟨C + 1, ⟨hb1, by omega⟩, fun f xs' hf hb' => ?_⟩
    exact h f xs' hf (hb'.up (by omega))
/-! _law_edges -/
def b_law_edges : IS := .seq (.asg (.tup (.cons (.var 2) (.cons (.var 3) (.cons (.var 4) (.cons (.var 5) .nil))))) (.var 0)) (.seq (.asg (.tup (.cons (.var 6) (.cons (.var 7) .nil))) (.tup (.cons (.call 0 (.cons (.var 2) (.cons (.bin .sub (.var 3) (.cst (.int 1))) .nil))) (.cons (.bin .sub (.call 0 (.cons (.var 2) (.cons (.var 3) .nil))) (.cst (.int 1))) .nil)))) (.seq (.asg (.var 1) (.lst 0 (.cons (.tup (.cons (.cst (.str (Str.ofString "num"))) (.cons (.cst (.int 0)) (.cons (.cst (.int 0)) (.cons (.var 4) .nil))))) (.cons (.tup (.cons (.cst (.str (Str.ofString "num"))) (.cons (.cst (.int 0)) (.cons (.cst (.int 1)) (.cons (.var 4) .nil))))) (.cons (.tup (.cons (.cst (.str (Str.ofString "num"))) (.cons (.cst (.int 0)) (.cons (.bin .sub (.var 6) (.cst (.int 1))) (.cons (.var 4) .nil))))) (.cons (.tup (.cons (.cst (.str (Str.ofString "num"))) (.cons (.cst (.int 0)) (.cons (.var 6) (.cons (.var 4) .nil))))) .nil)))))) (.seq (.asg (.var 1) (.bin .add (.var 1) (.lst 0 (.cons (.tup (.cons (.cst (.str (Str.ofString "num"))) (.cons (.cst (.int 0)) (.cons (.bin .add (.var 6) (.cst (.int 1))) (.cons (.var 4) .nil))))) (.cons (.tup (.cons (.cst (.str (Str.ofString "num"))) (.cons (.cst (.int 0)) (.cons (.var 7) (.cons (.var 4) .nil))))) (.cons (.tup (.cons (.cst (.str (Str.ofString "num"))) (.cons (.cst (.int 0)) (.cons (.var 6) (.cons (.var 5) .nil))))) (.cons (.tup (.cons (.cst (.str (Str.ofString "num"))) (.cons (.cst (.int 0)) (.cons (.var 7) (.cons (.var 5) .nil))))) .nil))))))) (.seq (.ret (.bin .add (.var 1) (.lst 0 (.cons (.tup (.cons (.cst (.str (Str.ofString "num"))) (.cons (.cst (.int 0)) (.cons (.bin .sub (.var 7) (.cst (.int 1))) (.cons (.var 5) .nil))))) (.cons (.tup (.cons (.cst (.str (Str.ofString "num"))) (.cons (.cst (.int 0)) (.cons (.bin .add (.var 6) (.bin .fdiv (.var 6) (.cst (.int 2)))) (.cons (.var 5) .nil))))) .nil))))) .skip))))
def tb_law_edges : Tb := ⟨[((Str.ofString "_law_to"), 2, sp_law_to)], []⟩
theorem tbm_law_edges : tb_law_edges.Mono := Tb.mono_of fun q hq => by
  simp only [tb_law_edges, List.mem_cons, List.not_mem_nil, or_false] at hq
  subst hq
  exact mono_law_to
def sp_law_edges : Sem := fun vs g Q => match vs with
  | [.d (.tuple [.int b, .int p, .int lo, .int hi])] => FmOk ⟨b, p, lo, hi⟩ ∧ ∀ ys : List D, ys.length = 10 → (∀ y ∈ ys, ∃ c e, y = vlD (.num 0 c e) ∧ NumOk ⟨b, p, lo, hi⟩ 0 c e) → Q (.d (.list ys)) g
  | _ => False
theorem mono_law_edges : SemMono sp_law_edges := by
  unfold sp_law_edges
  intro vs g Q Q' h q
  revert q
  split
  · exact fun q => ⟨q.1, fun ys h1 h2 => h _ _ (q.2 ys h1 h2)⟩
  · exact fun q => q.elim
theorem pure_law_edges : ∀ vs g Q, sp_law_edges vs g Q → semF tb_law_edges 8 b_law_edges vs g Q := by
  intro vs g Q h
  unfold sp_law_edges at h
  split at h
  · rename_i b p lo hi
    obtain ⟨hf, h⟩ := h
    obtain ⟨w1, w2⟩ := hf.pw
    have bF : Bd 640 (b ^ (p - 1).toNat) := hf.bdF
    have F1 : 1 ≤ b ^ (p - 1).toNat := hf.F_pos
    have TF : b ^ p.toNat = b ^ (p - 1).toNat + (b - 1) * b ^ (p - 1).toNat := hf.TF
    have lh : lo ≤ hi := hf.lh
    have F2 : 2 ≤ b ^ (p - 1).toNat := by
      have e : (p - 1).toNat = (p - 2).toNat + 1 := by have := hf.p2; simp only at this; omega
      have h0 : 0 < b ^ (p - 2).toNat := Int.pow_pos (by have := hf.b2; simp only at this; omega)
      have hb : 2 ≤ b := hf.b2
      rw [e, Int.pow_succ]
      have := Int.mul_le_mul (show (1 : Int) ≤ b ^ (p - 2).toNat by omega) hb (by omega) (by omega)
      omega
    have WF : b ^ (p - 1).toNat ≤ (b - 1) * b ^ (p - 1).toNat := by
      have hb : 2 ≤ b := hf.b2
      have := Int.mul_le_mul_of_nonneg_right (show 1 ≤ b - 1 by omega) (show 0 ≤ b ^ (p - 1).toNat by omega)
      omega
    have ok : ∀ c e : Int, lo ≤ e → e ≤ hi → 0 ≤ c → c < b ^ p.toNat → (e = lo ∨ b ^ (p - 1).toNat ≤ c) → ∃ c' e', (.tuple [.str "num", .int 0, .int c, .int e] : D) = vlD (.num 0 c' e') ∧ NumOk ⟨b, p, lo, hi⟩ 0 c' e' :=
      fun c e h1 h2 h3 h4 h5 => ⟨c, e, rfl, .inl rfl, h1, h2, h3, h4, h5⟩
    have fd : (b ^ (p - 1).toNat).fdiv 2 = b ^ (p - 1).toNat / 2 := Int.fdiv_eq_ediv_of_nonneg _ (by decide)
    walk_at "vi"
    refine h _ rfl fun y hy => ?_
    simp only [List.mem_append, List.mem_cons, List.not_mem_nil, or_false, or_assoc] at hy
    rcases hy with rfl | rfl | rfl | rfl | rfl | rfl | rfl | rfl | rfl | rfl <;> first
      | exact ok _ _ (by omega) (by omega) (by omega) (by omega) (by omega)
      | (rw [fd]; exact ok _ _ (by omega) (by omega) (by omega) (by omega) (by omega))
  · exact h.elim
/-! _law_number -/
def b_law_number : IS := .seq (.asg (.tup (.cons (.var 2) (.cons (.var 3) (.cons (.var 4) (.cons (.var 5) .nil))))) (.var 1)) (.seq (.asg (.tup (.cons (.var 6) (.cons (.var 7) .nil))) (.tup (.cons (.call 0 (.cons (.var 0) (.cons (.cst (.int 6)) .nil))) (.cons (.call 0 (.cons (.var 0) (.cons (.cst (.int 2)) .nil))) .nil)))) (.seq (.ifs (.cmp .lt (.var 6) (.cst (.int 2))) (.seq (.asg (.var 8) (.call 1 (.cons (.var 0) (.cons (.call 2 (.cons (.var 1) .nil)) .nil)))) .skip) (.seq (.asg (.var 9) (.call 1 (.cons (.var 0) (.cons (.lst 0 (.cons (.var 4) (.cons (.var 5) (.cons (.bin .add (.var 4) (.call 0 (.cons (.var 0) (.cons (.bin .add (.bin .sub (.var 5) (.var 4)) (.cst (.int 1))) .nil)))) (.cons (.blt .min2 0 (.cons (.var 5) (.cons (.blt .max2 0 (.cons (.var 4) (.cons (.neg (.bin .fdiv (.var 3) (.cst (.int 2)))) .nil))) .nil))) .nil))))) .nil)))) (.seq (.asg (.var 10) (.call 3 (.cons (.var 2) (.cons (.bin .sub (.var 3) (.cst (.int 1))) .nil)))) (.seq (.asg (.var 11) (.bin .add (.var 10) (.call 0 (.cons (.var 0) (.cons (.bin .sub (.call 3 (.cons (.var 2) (.cons (.var 3) .nil))) (.var 10)) .nil))))) (.seq (.ifs (.cmp .eq (.var 6) (.cst (.int 2))) (.seq (.asg (.var 11) (.call 1 (.cons (.var 0) (.cons (.lst 0 (.cons (.var 10) (.cons (.bin .mul (.var 10) (.bin .sub (.var 2) (.cst (.int 1)))) (.cons (.bin .add (.var 10) (.cst (.int 1))) (.cons (.bin .sub (.call 3 (.cons (.var 2) (.cons (.var 3) .nil))) (.cst (.int 1))) .nil))))) .nil)))) .skip) (.skip)) (.seq (.ifs (.an (.cmp .eq (.var 9) (.var 4)) (.cmp .eq (.var 6) (.cst (.int 3)))) (.seq (.asg (.var 11) (.call 0 (.cons (.var 0) (.cons (.var 10) .nil)))) .skip) (.skip)) (.seq (.asg (.var 8) (.tup (.cons (.cst (.str (Str.ofString "num"))) (.cons (.cst (.int 0)) (.cons (.var 11) (.cons (.var 9) .nil)))))) .skip))))))) (.seq (.ret (.bin .add (.tup (.cons (.cst (.str (Str.ofString "num"))) (.cons (.var 7) .nil))) (.sl 0 (.var 8) (.cst (.int 2)) (.nil)))) .skip)))
def tb_law_number : Tb := ⟨[((Str.ofString "_law_take"), 2, sp_law_take), ((Str.ofString "_law_some"), 2, sp_law_some), ((Str.ofString "_law_edges"), 1, sp_law_edges), ((Str.ofString "_law_to"), 2, sp_law_to)], []⟩
theorem tbm_law_number : tb_law_number.Mono := Tb.mono_of fun q hq => by
  simp only [tb_law_number, List.mem_cons, List.not_mem_nil, or_false] at hq
  rcases hq with rfl | rfl | rfl | rfl
  · exact mono_law_take
  · exact mono_law_some
  · exact mono_law_edges
  · exact mono_law_to
def sp_law_number : Sem := fun vs g Q => match vs, g with
  | [.gm 0, .d (.tuple [.int b, .int p, .int lo, .int hi])], xs :: gs => ∃ C, (BagAt C xs ∧ C < 2 ^ 61 ∧ FmOk ⟨b, p, lo, hi⟩) ∧ ∀ s c e xs', NumOk ⟨b, p, lo, hi⟩ s c e → BagAt (C + 7) xs' → Q (.d (vlD (.num s c e))) (xs' :: gs)
  | _, _ => False
theorem mono_law_number : SemMono sp_law_number := by
  unfold sp_law_number
  intro vs g Q Q' h q
  revert q
  split
  · rintro ⟨C, a, b⟩
    exact ⟨C, a, fun s c e xs' h1 h2 => h _ _ (b s c e xs' h1 h2)⟩
  · exact fun q => q.elim
theorem pure_law_number : ∀ vs g Q, sp_law_number vs g Q → semF tb_law_number 12 b_law_number vs g Q := by
  intro vs g Q h
  unfold sp_law_number at h
  split at h
  · rename_i b p lo hi xs gs
    obtain ⟨C, ⟨hb, hC, hf⟩, h⟩ := h
    obtain ⟨w1, w2⟩ := hf.pw
    have bF : Bd 640 (b ^ (p - 1).toNat) := hf.bdF
    have bT : Bd 640 (b ^ p.toNat) := hf.bdT
    have F1 : 1 ≤ b ^ (p - 1).toNat := hf.F_pos
    have W1 : 1 ≤ (b - 1) * b ^ (p - 1).toNat := hf.W_pos
    have TF : b ^ p.toNat = b ^ (p - 1).toNat + (b - 1) * b ^ (p - 1).toNat := hf.TF
    have lh : lo ≤ hi := hf.lh
    have l1 : -1300 ≤ lo := hf.l
    have h1 : hi ≤ 1300 := hf.h
    have hb2 : 2 ≤ b := hf.b2
    have hb36 : b ≤ 36 := hf.b36
    have bb : Bd 6 (b - 1) := by unfold Bd; omega
    walk_at "vi"
    refine ⟨C, ⟨hb, by omega, by decide, Bd.up (k := 64) (by walk_at "bd") (by decide)⟩, fun way x1 w0 w6 hb1 => ?_⟩
    walk_at "vi"
    refine ⟨C + 1, ⟨hb1, by omega, by decide, Bd.up (k := 64) (by walk_at "bd") (by decide)⟩, fun s x2 s0 s2 hb2' => ?_⟩
    have hs : s = 0 ∨ s = 1 := by omega
    walk_at "vi"
    · intro ys hlen hys
      walk_at "vi"
      refine ⟨C + 2, ⟨hb2', by omega, by rw [← List.length_pos_iff]; omega, by omega⟩, fun y x3 hy hb3 => ?_⟩
      obtain ⟨c, e, rfl, hn⟩ := hys y hy
      walk_at "vi"
      · exact h s c e x3 ⟨hs, hn.e1, hn.e2, hn.c0, hn.c1, hn.c2⟩ (hb3.up (by omega))
      · exact Nat.le_trans (Nat.add_le_add_left (cut_len _ _ _) _) (by simp)
    · have hd : Bd 8000 (hi - lo + 1) := Bd.up (k := 64) (Bd.lit64 _ (by omega)) (by decide)
      refine ⟨C + 2, ⟨hb2', by omega, by omega, hd⟩, fun v3 x3 v30 v31 hb3 => ?_⟩
      walk_at "vi"
      refine ⟨C + 3, ⟨hb3, by omega, by simp, by simp⟩, fun y x4 hy hb4 => ?_⟩
      obtain ⟨e, rfl, e1, e2⟩ : ∃ e : Int, y = .int e ∧ lo ≤ e ∧ e ≤ hi := by
        simp only [List.mem_cons, List.not_mem_nil, or_false] at hy
        rcases hy with rfl | rfl | rfl | rfl <;> exact ⟨_, rfl, by omega, by omega⟩
      walk_at "vi"
      have hd2 : Bd 8000 (b ^ p.toNat - b ^ (p - 1).toNat) := (bT.sub bF).up (by omega)
      refine ⟨C + 4, ⟨hb4, by omega, by omega, hd2⟩, fun v5 x5 v50 v51 hb5 => ?_⟩
      have len4 : ∀ (x y z w : D), [PyData.str (Str.ofString "num"), PyData.int s].length + (cutD [x, y, z, w] (some 2) none).length ≤ 1000000 := fun x y z w => Nat.le_trans (Nat.add_le_add_left (cut_len _ _ _) _) (by simp)
      have fin : ∀ (c : Int) (k : Nat) (x : List D), BagAt k x → k ≤ C + 7 → 0 ≤ c → c < b ^ p.toNat → (e = lo ∨ b ^ (p - 1).toNat ≤ c) → Q (.d (vlD (.num s c e))) (x :: gs) := fun c k x h1 h2 h3 h4 h5 => h s c e x ⟨hs, e1, e2, h3, h4, h5⟩ (h1.up h2)
      walk_at "vi"
      · refine ⟨C + 5, ⟨hb5, by omega, by simp, by simp⟩, fun y x6 hy hb6 => ?_⟩
        obtain ⟨c, rfl, c0, c1, c2⟩ : ∃ c : Int, y = .int c ∧ 0 ≤ c ∧ c < b ^ p.toNat ∧ b ^ (p - 1).toNat ≤ c := by
          have WF : b ^ (p - 1).toNat ≤ (b - 1) * b ^ (p - 1).toNat := by
            have := Int.mul_le_mul_of_nonneg_right (show 1 ≤ b - 1 by omega) (show 0 ≤ b ^ (p - 1).toNat by omega)
            omega
          have cm : b ^ (p - 1).toNat * (b - 1) = (b - 1) * b ^ (p - 1).toNat := Int.mul_comm _ _
          have F2 := hf.F2
          have F2 : 2 ≤ b ^ (p - 1).toNat := F2
          simp only [List.mem_cons, List.not_mem_nil, or_false] at hy
          rcases hy with rfl | rfl | rfl | rfl <;> exact ⟨_, rfl, by omega, by omega, by omega⟩
        walk_at "vi"
        · omega
        all_goals first | exact len4 _ _ _ _ | exact fin c _ x6 hb6 (by omega) c0 c1 (.inr c2)
      · have hd3 : Bd 8000 (b ^ (p - 1).toNat) := bF.up (by omega)
        refine ⟨C + 5, ⟨hb5, by omega, by omega, hd3⟩, fun v6 x6 v60 v61 hb6 => ?_⟩
        walk_at "vi"
        all_goals first | exact len4 _ _ _ _ | exact fin v6 _ x6 hb6 (by omega) v60 (by omega) (.inl (by assumption))
      all_goals first | exact len4 _ _ _ _ | exact fin _ _ x5 hb5 (by omega) (by omega) (by omega) (.inr (by omega))
  · exact h.elim
/-! _law_near_number -/
def b_law_near_number : IS := .seq (.asg (.tup (.cons (.var 5) (.cons (.var 6) (.cons (.var 7) (.cons (.var 8) .nil))))) (.var 1)) (.seq (.asg (.var 3) (.blt .min2 0 (.cons (.var 8) (.cons (.blt .max2 0 (.cons (.var 7) (.cons (.bin .add (.ixc (.var 2) 3) (.call 0 (.cons (.var 0) (.cons (.lst 0 (.cons (.cst (.int 0)) (.cons (.cst (.int 1)) (.cons (.neg (.cst (.int 1))) (.cons (.var 6) (.cons (.neg (.var 6)) (.cons (.bin .sub (.cst (.int 1)) (.var 6)) .nil))))))) .nil)))) .nil))) .nil)))) (.seq (.asg (.var 4) (.call 1 (.cons (.var 5) (.cons (.bin .sub (.var 6) (.cst (.int 1))) .nil)))) (.seq (.ret (.tup (.cons (.cst (.str (Str.ofString "num"))) (.cons (.call 2 (.cons (.var 0) (.cons (.cst (.int 2)) .nil))) (.cons (.bin .add (.var 4) (.call 2 (.cons (.var 0) (.cons (.bin .sub (.call 1 (.cons (.var 5) (.cons (.var 6) .nil))) (.var 4)) .nil)))) (.cons (.var 3) .nil)))))) .skip)))
def tb_law_near_number : Tb := ⟨[((Str.ofString "_law_some"), 2, sp_law_some), ((Str.ofString "_law_to"), 2, sp_law_to), ((Str.ofString "_law_take"), 2, sp_law_take)], []⟩
theorem tbm_law_near_number : tb_law_near_number.Mono := Tb.mono_of fun q hq => by
  simp only [tb_law_near_number, List.mem_cons, List.not_mem_nil, or_false] at hq
  rcases hq with rfl | rfl | rfl
  · exact mono_law_some
  · exact mono_law_to
  · exact mono_law_take
def sp_law_near_number : Sem := fun vs g Q => ∃ f xs gs s c e, vs = [.gm 0, .d (fmD f), .d (vlD (.num s c e))] ∧ g = xs :: gs ∧ ∃ C, (BagAt C xs ∧ C < 2 ^ 60 ∧ FmOk f ∧ NumOk f s c e) ∧ ∀ s' c' e' xs', NumOk f s' c' e' → BagAt (C + 3) xs' → Q (.d (vlD (.num s' c' e'))) (xs' :: gs)
theorem mono_law_near_number : SemMono sp_law_near_number := fun vs g Q Q' h ⟨f, xs, gs, s, c, e, e1, e2, C, a, q⟩ => ⟨f, xs, gs, s, c, e, e1, e2, C, a, fun s' c' e' xs' h1 h2 => h _ _ (q s' c' e' xs' h1 h2)⟩
theorem pure_law_near_number : ∀ vs g Q, sp_law_near_number vs g Q → semF tb_law_near_number 9 b_law_near_number vs g Q := by
  rintro _ _ Q ⟨⟨b, p, lo, hi⟩, xs, gs, s, c, e, rfl, rfl, C, ⟨hb, hC, hf, hn⟩, h⟩
  obtain ⟨w1, w2⟩ := hf.pw
  have TF : b ^ p.toNat = b ^ (p - 1).toNat + Fm.W ⟨b, p, lo, hi⟩ := hf.TF
  have F0 : 1 ≤ b ^ (p - 1).toNat := hf.F_pos
  have W0 := hf.W_pos
  have bT : Bd 640 (b ^ p.toNat) := hf.bdT
  have lh : lo ≤ hi := hf.lh
  walk_at "vi"
  refine ⟨C, ⟨hb, by omega, by simp, by simp⟩, fun y x1 hy hb1 => ?_⟩
  obtain ⟨t, rfl⟩ : ∃ t : Int, y = .int t := by
    simp only [List.mem_cons, List.not_mem_nil, or_false] at hy
    rcases hy with rfl | rfl | rfl | rfl | rfl | rfl <;> exact ⟨_, rfl⟩
  walk_at "vi"
  all_goals try (first | exact w1 | exact w2)
  refine ⟨C + 1, ⟨hb1, by omega, by decide, Bd.up (k := 64) (by walk_at "bd") (by decide)⟩, fun v x2 v0 v1 hb2 => ?_⟩
  walk_at "vi"
  all_goals try (first | exact w1 | exact w2)
  have q1 : 0 < b ^ p.toNat - b ^ (p - 1).toNat := by omega
  have q2 : Bd 8000 (b ^ p.toNat - b ^ (p - 1).toNat) := (bT.of_natAbs (by omega)).up (by decide)
  refine ⟨C + 2, ⟨hb2, by omega, q1, q2⟩, fun u x3 u0 u1 hb3 => ?_⟩
  have u1 : u < b ^ p.toNat - b ^ (p - 1).toNat := u1
  have ok : ∀ e', lo ≤ e' → e' ≤ hi → NumOk ⟨b, p, lo, hi⟩ v (b ^ (p - 1).toNat + u) e' := fun e' a1 a2 => ⟨by omega, a1, a2, by omega, by show _ < b ^ p.toNat; omega, .inr (by show b ^ (p - 1).toNat ≤ _; omega)⟩
  walk_at "vi"
  refine h v _ _ x3 (ok _ ?_ ?_) (hb3.up (by omega))
  · show lo ≤ min hi (max lo (e + t))
    omega
  · show min hi (max lo (e + t)) ≤ hi
    omega
/-! _law_placed -/
def b_law_placed : IS := .seq (.ret (.ife (.an (.cmp .eq (.ixc (.var 0) 0) (.cst (.str (Str.ofString "num")))) (.cmp .eq (.ixc (.var 0) 2) (.cst (.int 0)))) (.bin .add (.tup (.cons (.cst (.str (Str.ofString "num"))) (.cons (.cst (.int 0)) .nil))) (.sl 0 (.var 0) (.cst (.int 2)) (.nil))) (.var 0))) .skip
def tb_law_placed : Tb := ⟨[], []⟩
theorem tbm_law_placed : tb_law_placed.Mono := Tb.mono_of fun q hq => by
  simp only [tb_law_placed, List.mem_cons, List.not_mem_nil, or_false] at hq
def sp_law_placed : Sem := fun vs g Q => ∃ v, vs = [.d (vlD v)] ∧ Q (.d (vlD (placeV v))) g
theorem mono_law_placed : SemMono sp_law_placed := fun vs g Q Q' h ⟨v, e, q⟩ => ⟨v, e, h _ _ q⟩
theorem pure_law_placed : ∀ vs g Q, sp_law_placed vs g Q → semF tb_law_placed 1 b_law_placed vs g Q := by
  rintro _ g Q ⟨v, rfl, h⟩
  cases v with
  | nan =>
    walk_at "vp"
    all_goals first | exact h | trace_state
  | inf s =>
    walk_at "vp"
    all_goals first | exact h | trace_state
  | num s c e =>
    have h : Q (.d (vlD (if c = 0 then .num 0 c e else .num s c e))) g := h
    by_cases z : c = 0
    · rw [if_pos z] at h
      walk_at "vp"
      all_goals first | exact h | exact show (4 : Nat) ≤ 1000000 from by decide | trace_state
    · rw [if_neg z] at h
      walk_at "vp"
      all_goals first | exact h | trace_state
/-! _law_is_not_above -/
def b_law_is_not_above : IS := .seq (.ifs (.oo (.cmp .eq (.ixc (.var 1) 0) (.cst (.str (Str.ofString "inf")))) (.cmp .eq (.ixc (.var 2) 0) (.cst (.str (Str.ofString "inf"))))) (.seq (.ret (.oo (.cmp .eq (.var 1) (.tup (.cons (.cst (.str (Str.ofString "inf"))) (.cons (.cst (.int 1)) .nil)))) (.oo (.cmp .eq (.var 2) (.tup (.cons (.cst (.str (Str.ofString "inf"))) (.cons (.cst (.int 0)) .nil)))) (.cmp .eq (.var 1) (.var 2))))) .skip) (.skip)) (.seq (.ret (.nt (.call 0 (.cons (.call 1 (.cons (.var 0) (.cons (.var 2) .nil))) (.cons (.call 1 (.cons (.var 0) (.cons (.var 1) .nil))) .nil))))) .skip)
def tb_law_is_not_above : Tb := ⟨[((Str.ofString "_law_is_below"), 2, sp_law_is_below), ((Str.ofString "_law_worth"), 2, sp_law_worth)], []⟩
theorem tbm_law_is_not_above : tb_law_is_not_above.Mono := Tb.mono_of fun q hq => by
  simp only [tb_law_is_not_above, List.mem_cons, List.not_mem_nil, or_false] at hq
  rcases hq with rfl | rfl
  · exact mono_law_is_below
  · exact mono_law_worth
def sp_law_is_not_above : Sem := fun vs g Q => ∃ f s c e t c' e', vs = [.d (fmD f), .d (vlD (.num s c e)), .d (vlD (.num t c' e'))] ∧ (FmOk f ∧ NumOk f s c e ∧ NumOk f t c' e') ∧ ∀ r, Q (.d (.bool r)) g
theorem mono_law_is_not_above : SemMono sp_law_is_not_above := fun vs g Q Q' h ⟨f, s, c, e, t, c', e', e1, a, q⟩ => ⟨f, s, c, e, t, c', e', e1, a, fun r => h _ _ (q r)⟩
theorem pure_law_is_not_above : ∀ vs g Q, sp_law_is_not_above vs g Q → semF tb_law_is_not_above 3 b_law_is_not_above vs g Q := by
  rintro _ g Q ⟨f, s, c, e, t, c', e', rfl, ⟨hf, h1, h2⟩, h⟩
  have p1 := wv_pre hf h1
  have p2 := wv_pre hf h2
  have f1 := wv_fra hf h1
  have f2 := wv_fra hf h2
  walk_at "vp"
  refine ⟨wv f.b t c' e', wv f.b s c e, 3200, 3200, rfl, ⟨f2.fb, f1.fb, by decide⟩, ?_⟩
  walk_at "vp"
  all_goals first | exact h _ | trace_state
/-! _law_span -/
def b_law_span : IS := .seq (.asg (.tup (.cons (.var 3) (.cons (.var 4) .nil))) (.tup (.cons (.call 0 (.cons (.var 0) (.cons (.cst (.int 12)) .nil))) (.cons (.call 1 (.cons (.call 2 (.cons (.var 0) (.cons (.var 1) .nil))) .nil)) .nil)))) (.seq (.ifs (.cmp .eq (.var 3) (.cst (.int 0))) (.seq (.ret (.tup (.cons (.cst (.str (Str.ofString "none"))) .nil))) .skip) (.skip)) (.seq (.ifs (.cmp .eq (.var 3) (.cst (.int 1))) (.seq (.ret (.call 3 (.cons (.var 0) (.cons (.lst 0 (.cons (.tup (.cons (.cst (.str (Str.ofString "span"))) (.cons (.tup (.cons (.cst (.str (Str.ofString "inf"))) (.cons (.cst (.int 1)) .nil))) (.cons (.var 4) .nil)))) (.cons (.tup (.cons (.cst (.str (Str.ofString "span"))) (.cons (.var 4) (.cons (.tup (.cons (.cst (.str (Str.ofString "inf"))) (.cons (.cst (.int 0)) .nil))) .nil)))) (.cons (.tup (.cons (.cst (.str (Str.ofString "span"))) (.cons (.tup (.cons (.cst (.str (Str.ofString "inf"))) (.cons (.cst (.int 1)) .nil))) (.cons (.tup (.cons (.cst (.str (Str.ofString "inf"))) (.cons (.cst (.int 0)) .nil))) .nil)))) .nil)))) .nil)))) .skip) (.skip)) (.seq (.ifs (.cmp .lt (.var 3) (.cst (.int 4))) (.seq (.ret (.tup (.cons (.cst (.str (Str.ofString "span"))) (.cons (.var 4) (.cons (.var 4) .nil))))) .skip) (.skip)) (.seq (.asg (.var 2) (.call 1 (.cons (.ife (.cmp .lt (.var 3) (.cst (.int 8))) (.call 4 (.cons (.var 0) (.cons (.var 1) (.cons (.var 4) .nil)))) (.call 2 (.cons (.var 0) (.cons (.var 1) .nil)))) .nil))) (.seq (.ret (.ife (.call 5 (.cons (.var 1) (.cons (.var 4) (.cons (.var 2) .nil)))) (.tup (.cons (.cst (.str (Str.ofString "span"))) (.cons (.var 4) (.cons (.var 2) .nil)))) (.tup (.cons (.cst (.str (Str.ofString "span"))) (.cons (.var 2) (.cons (.var 4) .nil)))))) .skip)))))
def tb_law_span : Tb := ⟨[((Str.ofString "_law_take"), 2, sp_law_take), ((Str.ofString "_law_placed"), 1, sp_law_placed), ((Str.ofString "_law_number"), 2, sp_law_number), ((Str.ofString "_law_some"), 2, sp_law_some), ((Str.ofString "_law_near_number"), 3, sp_law_near_number), ((Str.ofString "_law_is_not_above"), 3, sp_law_is_not_above)], []⟩
theorem tbm_law_span : tb_law_span.Mono := Tb.mono_of fun q hq => by
  simp only [tb_law_span, List.mem_cons, List.not_mem_nil, or_false] at hq
  rcases hq with rfl | rfl | rfl | rfl | rfl | rfl
  · exact mono_law_take
  · exact mono_law_placed
  · exact mono_law_number
  · exact mono_law_some
  · exact mono_law_near_number
  · exact mono_law_is_not_above
def sp_law_span : Sem := fun vs g Q => ∃ f xs gs, vs = [.gm 0, .d (fmD f)] ∧ g = xs :: gs ∧ ∃ C, (BagAt C xs ∧ C < 2 ^ 58 ∧ FmOk f) ∧ ∀ s xs', SpanOk f s → BagAt (C + 16) xs' → Q (.d (spD s)) (xs' :: gs)
theorem mono_law_span : SemMono sp_law_span := fun vs g Q Q' h ⟨f, xs, gs, e1, e2, C, a, q⟩ => ⟨f, xs, gs, e1, e2, C, a, fun s xs' h1 h2 => h _ _ (q s xs' h1 h2)⟩
theorem pure_law_span : ∀ vs g Q, sp_law_span vs g Q → semF tb_law_span 5 b_law_span vs g Q := by
  rintro _ _ Q ⟨f, xs, gs, rfl, rfl, C, ⟨hb, hC, hf⟩, h⟩
  have pn : ∀ s c e, NumOk f s c e → ∃ s', placeV (.num s c e) = .num s' c e ∧ NumOk f s' c e ∧ EndOk f (.num s' c e) := fun s c e hn => by
    have q := place_end hf (v := .num s c e) hn trivial
    have e1 : placeV (.num s c e) = if c = 0 then .num 0 c e else .num s c e := rfl
    rw [e1] at q ⊢
    split
    · rename_i z
      rw [if_pos z] at q
      exact ⟨0, rfl, q.ok, q⟩
    · rename_i z
      rw [if_neg z] at q
      exact ⟨s, rfl, q.ok, q⟩
  have i0 : EndOk f (.inf 0) := ⟨.inl rfl, trivial, rfl⟩
  have i1 : EndOk f (.inf 1) := ⟨.inr rfl, trivial, rfl⟩
  have so : ∀ {s c e s' c' e'}, EndOk f (.num s c e) → EndOk f (.num s' c' e') → SpOk f (.num s c e) (.num s' c' e') := fun a b => ⟨a, b, (fun z => by cases z), (fun z => by cases z)⟩
  walk_at "vi"
  refine ⟨C, ⟨hb, by omega, by decide, Bd.up (k := 64) (by walk_at "bd") (by decide)⟩, fun way x1 v0 v1 hb1 => ?_⟩
  walk_at "w"
  refine ⟨C + 1, ⟨hb1, by omega, hf⟩, fun s c e x2 n1 hb2 => ?_⟩
  have n1 : NumOk f s c e := n1
  obtain ⟨s1, e1, m1, k1⟩ := pn s c e n1
  walk_at "w"
  refine ⟨.num s c e, rfl, ?_⟩
  rw [e1]
  walk_at "vp"
  · exact h .no x2 trivial (hb2.up (by omega))
  · refine ⟨C + 8, ⟨hb2, by omega, by simp, by show (3 : Nat) ≤ 1000000; decide⟩, fun y x3 hm hb3 => ?_⟩
    obtain ⟨sp, rfl, ok⟩ : ∃ sp, y = spD sp ∧ SpanOk f sp := by
      simp only [List.mem_cons, List.not_mem_nil, or_false] at hm
      rcases hm with rfl | rfl | rfl
      · exact ⟨.sp (.inf 1) (.num s1 c e), rfl, ⟨i1, k1, (fun z => by cases z), (fun z => by cases z)⟩⟩
      · exact ⟨.sp (.num s1 c e) (.inf 0), rfl, ⟨k1, i0, (fun z => by cases z), (fun z => by cases z)⟩⟩
      · exact ⟨.sp (.inf 1) (.inf 0), rfl, ⟨i1, i0, (fun z => by cases z), (fun z => by cases z)⟩⟩
    walk_at "vp"
    exact h sp x3 ok (hb3.up (by omega))
  · exact h (.sp (.num s1 c e) (.num s1 c e)) x2 (so k1 k1) (hb2.up (by omega))
  · refine ⟨f, x2, gs, s1, c, e, rfl, rfl, C + 8, ⟨hb2, by omega, hf, m1⟩, fun t c' e' x3 n2 hb3 => ?_⟩
    have m2' : NumOk f t c' e' := n2
    obtain ⟨t1, e2, m2, k2⟩ := pn t c' e' m2'
    walk_at "w"
    refine ⟨.num t c' e', rfl, ?_⟩
    rw [e2]
    walk_at "w"
    refine ⟨f, s1, c, e, t1, c', e', rfl, ⟨hf, m1, m2⟩, fun r => ?_⟩
    cases r
    · walk_at "vp"
      exact h (.sp (.num t1 c' e') (.num s1 c e)) x3 (so k2 k1) (hb3.up (by omega))
    · walk_at "vp"
      exact h (.sp (.num s1 c e) (.num t1 c' e')) x3 (so k1 k2) (hb3.up (by omega))
  · refine ⟨C + 8, ⟨hb2, by omega, hf⟩, fun t c' e' x3 n2 hb3 => ?_⟩
    have m2' : NumOk f t c' e' := n2
    obtain ⟨t1, e2, m2, k2⟩ := pn t c' e' m2'
    walk_at "w"
    refine ⟨.num t c' e', rfl, ?_⟩
    rw [e2]
    walk_at "w"
    refine ⟨f, s1, c, e, t1, c', e', rfl, ⟨hf, m1, m2⟩, fun r => ?_⟩
    cases r
    · walk_at "vp"
      exact h (.sp (.num t1 c' e') (.num s1 c e)) x3 (so k2 k1) (hb3.up (by omega))
    · walk_at "vp"
      exact h (.sp (.num s1 c e) (.num t1 c' e')) x3 (so k1 k2) (hb3.up (by omega))
/-! _law_box -/
def b_law_box : IS := .seq (.ret (.blt .tuple 0 (.cons (.cmpr 0 [3] (.var 3) (.rng (.cons (.var 2) .nil)) (.nil) (.call 0 (.cons (.var 0) (.cons (.var 1) .nil)))) .nil))) .skip
def tb_law_box : Tb := ⟨[((Str.ofString "_law_span"), 2, sp_law_span)], []⟩
theorem tbm_law_box : tb_law_box.Mono := Tb.mono_of fun q hq => by
  simp only [tb_law_box, List.mem_cons, List.not_mem_nil, or_false] at hq
  subst hq
  exact mono_law_span
def sp_law_box : Sem := fun vs g Q => ∃ f m xs gs, vs = [.gm 0, .d (fmD f), .d (.int (m : Nat))] ∧ g = xs :: gs ∧ ∃ C, (BagAt C xs ∧ C < 2 ^ 57 ∧ FmOk f ∧ m ≤ 3) ∧ ∀ ss xs', BoxOk f ss → ss.length = m → BagAt (C + 16 * m) xs' → Q (.d (boxD ss)) (xs' :: gs)
theorem mono_law_box : SemMono sp_law_box := fun vs g Q Q' h ⟨f, m, xs, gs, e1, e2, C, a, q⟩ => ⟨f, m, xs, gs, e1, e2, C, a, fun ss xs' h1 h2 h3 => h _ _ (q ss xs' h1 h2 h3)⟩
theorem pure_law_box : ∀ vs g Q, sp_law_box vs g Q → semF tb_law_box 4 b_law_box vs g Q := by
  rintro _ _ Q ⟨f, m, xs, gs, rfl, rfl, C, ⟨hb, hC, hf, hm⟩, h⟩
  walk_at "w"
  refine ⟨⟨by omega, by omega⟩, ?_⟩
  walk_at "w"
  refine ⟨by simp [upto]; omega, ?_⟩
  refine loopC_inv tbm_law_box (fun i st acc => ∃ x ss, st = ⟨x :: gs, []⟩ ∧ acc = ss.map spD ∧ ss.length = i ∧ (∀ s ∈ ss, SpanOk f s) ∧ BagAt (C + 16 * i) x) ?_ ?_ ⟨xs, [], rfl, rfl, rfl, (fun s hs => by cases hs), hb⟩
  · rintro i y _ _ hy ⟨x, ss, rfl, rfl, hl, ho, hb⟩
    have hi : i < m := by
      have := (upto_get hy).1
      omega
    walk_at "w"
    refine And.intro (fun _ => ?_) (fun z => nomatch z)
    walk_at "w"
    refine ⟨f, x, gs, rfl, rfl, C + 16 * i, ⟨hb, by omega, hf⟩, fun s x' hs hb' => ?_⟩
    walk_at "w"
    refine ⟨x', ss ++ [s], rfl, by simp, by simp [hl], fun t ht => ?_, hb'.up (by omega)⟩
    rcases List.mem_append.mp ht with q | q
    · exact ho t q
    · rw [List.mem_singleton.mp q]
      exact hs
  · rintro _ _ ⟨x, ss, rfl, rfl, hl, ho, hb⟩
    have hl : ss.length = m := by rw [hl]; simp [upto]
    walk_at "w"
    refine h ss x ⟨by omega, ho⟩ hl (hb.up ?_)
    simp [upto]
/-! _law_rank -/
def b_law_rank : IS := .seq (.asg (.tup (.cons (.var 2) (.cons (.var 3) (.cons (.var 4) (.cons (.var 5) .nil))))) (.var 0)) (.seq (.ifs (.cmp .eq (.ixc (.var 1) 0) (.cst (.str (Str.ofString "inf")))) (.seq (.asg (.var 6) (.bin .add (.bin .add (.bin .sub (.call 0 (.cons (.var 2) (.cons (.var 3) .nil))) (.cst (.int 1))) (.bin .mul (.bin .mul (.bin .sub (.var 5) (.var 4)) (.bin .sub (.var 2) (.cst (.int 1)))) (.call 0 (.cons (.var 2) (.cons (.bin .sub (.var 3) (.cst (.int 1))) .nil))))) (.cst (.int 1)))) .skip) (.seq (.asg (.var 6) (.bin .add (.ixc (.var 1) 2) (.bin .mul (.bin .mul (.bin .sub (.ixc (.var 1) 3) (.var 4)) (.bin .sub (.var 2) (.cst (.int 1)))) (.call 0 (.cons (.var 2) (.cons (.bin .sub (.var 3) (.cst (.int 1))) .nil)))))) .skip)) (.seq (.ret (.ife (.cmp .eq (.ixc (.var 1) 1) (.cst (.int 1))) (.neg (.var 6)) (.var 6))) .skip))
def tb_law_rank : Tb := ⟨[((Str.ofString "_law_to"), 2, sp_law_to)], []⟩
theorem tbm_law_rank : tb_law_rank.Mono := Tb.mono_of fun q hq => by
  simp only [tb_law_rank, List.mem_cons, List.not_mem_nil, or_false] at hq
  subst hq
  exact mono_law_to
def sp_law_rank : Sem := fun vs g Q => ∃ f v, vs = [.d (fmD f), .d (vlD v)] ∧ (FmOk f ∧ VlOk f v ∧ notNan v) ∧ Q (.d (.int (rkV f v))) g
theorem mono_law_rank : SemMono sp_law_rank := fun vs g Q Q' h ⟨f, v, e, a, q⟩ => ⟨f, v, e, a, h _ _ q⟩
theorem pure_law_rank : ∀ vs g Q, sp_law_rank vs g Q → semF tb_law_rank 7 b_law_rank vs g Q := by
  rintro _ g Q ⟨⟨b, p, lo, hi⟩, v, rfl, ⟨hf, hv, hnn⟩, h⟩
  have x1 : ("num" : Str) ≠ "inf" := by decide
  cases v with
  | nan => exact hnn.elim
  | num s c e =>
    have hn : NumOk ⟨b, p, lo, hi⟩ s c e := hv
    obtain ⟨w1, w2⟩ := hf.pw
    have bT : Bd 640 (b ^ p.toNat) := hf.bdT
    have bF : Bd 640 (b ^ (p - 1).toNat) := hf.bdF
    have i1 := hf.b2
    have i2 := hf.b36
    have i3 := hf.l
    have i4 := hf.h
    have i5 := hf.lh
    have i6 := hn.e1
    have i7 := hn.e2
    simp only at i1 i2 i3 i4 i5 i6 i7
    have bb : Bd 6 (b - 1) := by unfold Bd; omega
    have be : Bd 12 (e - lo) := by unfold Bd; omega
    have bh : Bd 12 (hi - lo) := by unfold Bd; omega
    walk_at "vi"
    all_goals first
      | (refine Eq.mp (congrArg (fun z : Int => Q (.d (.int z)) g) ?_) h; unfold rkV Fm.W Fm.F; grind)
      | (exfalso; simp_all; done)
  | inf s =>
    obtain ⟨w1, w2⟩ := hf.pw
    have bT : Bd 640 (b ^ p.toNat) := hf.bdT
    have bF : Bd 640 (b ^ (p - 1).toNat) := hf.bdF
    have i1 := hf.b2
    have i2 := hf.b36
    have i3 := hf.l
    have i4 := hf.h
    have i5 := hf.lh
    simp only at i1 i2 i3 i4 i5
    have bb : Bd 6 (b - 1) := by unfold Bd; omega
    have bh : Bd 12 (hi - lo) := by unfold Bd; omega
    walk_at "vi"
    all_goals first
      | (refine Eq.mp (congrArg (fun z : Int => Q (.d (.int z)) g) ?_) h; unfold rkV Fm.X Fm.W Fm.F Fm.T; grind)
      | (exfalso; simp_all; done)
/-! _law_ranked -/
def b_law_ranked : IS := .seq (.asg (.tup (.cons (.var 3) (.cons (.var 4) (.cons (.var 5) (.cons (.var 6) .nil))))) (.var 0)) (.seq (.asg (.tup (.cons (.var 7) (.cons (.var 8) .nil))) (.tup (.cons (.blt .int 0 (.cons (.cmp .lt (.var 1) (.cst (.int 0))) .nil)) (.cons (.blt .abs 0 (.cons (.var 1) .nil)) .nil)))) (.seq (.ifs (.cmp .eq (.var 8) (.call 0 (.cons (.var 0) (.cons (.tup (.cons (.cst (.str (Str.ofString "inf"))) (.cons (.cst (.int 0)) .nil))) .nil)))) (.seq (.ret (.tup (.cons (.cst (.str (Str.ofString "inf"))) (.cons (.var 7) .nil)))) .skip) (.skip)) (.seq (.ifs (.cmp .lt (.var 8) (.call 1 (.cons (.var 3) (.cons (.var 4) .nil)))) (.seq (.ret (.tup (.cons (.cst (.str (Str.ofString "num"))) (.cons (.var 7) (.cons (.var 8) (.cons (.var 5) .nil)))))) .skip) (.skip)) (.seq (.asg (.tup (.cons (.var 9) (.cons (.var 10) .nil))) (.tup (.cons (.bin .sub (.var 8) (.call 1 (.cons (.var 3) (.cons (.var 4) .nil)))) (.cons (.call 1 (.cons (.var 3) (.cons (.bin .sub (.var 4) (.cst (.int 1))) .nil))) .nil)))) (.seq (.asg (.var 2) (.bin .mul (.bin .sub (.var 3) (.cst (.int 1))) (.var 10))) (.seq (.ret (.tup (.cons (.cst (.str (Str.ofString "num"))) (.cons (.var 7) (.cons (.bin .sub (.bin .add (.var 10) (.var 9)) (.bin .mul (.bin .fdiv (.var 9) (.var 2)) (.var 2))) (.cons (.bin .add (.bin .add (.var 5) (.cst (.int 1))) (.bin .fdiv (.var 9) (.var 2))) .nil)))))) .skip))))))
def tb_law_ranked : Tb := ⟨[((Str.ofString "_law_rank"), 2, sp_law_rank), ((Str.ofString "_law_to"), 2, sp_law_to)], []⟩
theorem tbm_law_ranked : tb_law_ranked.Mono := Tb.mono_of fun q hq => by
  simp only [tb_law_ranked, List.mem_cons, List.not_mem_nil, or_false] at hq
  rcases hq with rfl | rfl
  · exact mono_law_rank
  · exact mono_law_to
def sp_law_ranked : Sem := fun vs g Q => ∃ f r, vs = [.d (fmD f), .d (.int r)] ∧ (FmOk f ∧ (r.natAbs : Int) ≤ f.X) ∧ Q (.d (oD (atW f r))) g
theorem mono_law_ranked : SemMono sp_law_ranked := fun vs g Q Q' h ⟨f, r, e, a, q⟩ => ⟨f, r, e, a, h _ _ q⟩
theorem pure_law_ranked : ∀ vs g Q, sp_law_ranked vs g Q → semF tb_law_ranked 11 b_law_ranked vs g Q := by
  rintro _ g Q ⟨⟨b, p, lo, hi⟩, r, rfl, ⟨hf, hr⟩, h⟩
  rw [← atW_eq] at h
  obtain ⟨w1, w2⟩ := hf.pw
  have bT : Bd 640 (b ^ p.toNat) := hf.bdT
  have bF : Bd 640 (b ^ (p - 1).toNat) := hf.bdF
  have bX := hf.bdX
  have bR : Bd 700 (r.natAbs : Int) := bX.of_natAbs (by omega)
  have i1 := hf.b2
  have i2 := hf.b36
  have i3 := hf.l
  have F1 : 1 ≤ b ^ (p - 1).toNat := hf.F_pos
  have W1 : 1 ≤ (b - 1) * b ^ (p - 1).toNat := hf.W_pos
  have TF : b ^ p.toNat = b ^ (p - 1).toNat + (b - 1) * b ^ (p - 1).toNat := hf.TF
  have XT := hf.XF
  have inf : FmOk ⟨b, p, lo, hi⟩ ∧ VlOk ⟨b, p, lo, hi⟩ (.inf 0) ∧ notNan (.inf 0) := ⟨hf, .inl rfl, trivial⟩
  simp only at i1 i2 i3
  have bb : Bd 6 (b - 1) := by unfold Bd; omega
  have b0 : (b - 1) * b ^ (p - 1).toNat ≠ 0 := by omega
  have rkx : rkV ⟨b, p, lo, hi⟩ (.inf 0) = Fm.X ⟨b, p, lo, hi⟩ := rfl
  have eT : b ^ p.toNat = Fm.T ⟨b, p, lo, hi⟩ := rfl
  have shift : ∀ m : Int, (m - b ^ (p - 1).toNat).fdiv ((b - 1) * b ^ (p - 1).toNat) = (m - b ^ p.toNat).fdiv ((b - 1) * b ^ (p - 1).toNat) + 1 := fun m => by
    rw [Int.fdiv_eq_ediv_of_nonneg _ (by omega), Int.fdiv_eq_ediv_of_nonneg _ (by omega), show m - b ^ (p - 1).toNat = m - b ^ p.toNat + 1 * ((b - 1) * b ^ (p - 1).toNat) by omega, Int.add_mul_ediv_right _ _ b0]
  walk_at "vp"
  refine ⟨⟨b, p, lo, hi⟩, .inf 0, rfl, inf, ?_⟩
  rw [rkx]
  walk_at "vi"
  · refine Eq.mp (congrArg (fun z : D => Q (.d z) g) ?_) h
    rw [atV_most hf (by omega), if_pos (by assumption)]
    simp only [oD, vlD, sgn, decide_eq_true_eq]
  · refine Eq.mp (congrArg (fun z : D => Q (.d z) g) ?_) h
    rw [atV_T hf (by assumption)]
    simp only [oD, vlD, sgn, decide_eq_true_eq]
  · rename_i z1 z2
    refine Eq.mp (congrArg (fun z : D => Q (.d z) g) ?_) h
    rw [atV_btw hf z2 (by omega)]
    have s := shift (r.natAbs : Int)
    have ef : (((r.natAbs : Int) - Fm.F ⟨b, p, lo, hi⟩).fdiv (Fm.W ⟨b, p, lo, hi⟩)) = ((r.natAbs : Int) - b ^ p.toNat).fdiv ((b - 1) * b ^ (p - 1).toNat) + 1 := s
    rw [ef]
    show vlD (.num (sgn r) ((r.natAbs : Int) - (((r.natAbs : Int) - b ^ p.toNat).fdiv ((b - 1) * b ^ (p - 1).toNat) + 1) * ((b - 1) * b ^ (p - 1).toNat)) (lo + (((r.natAbs : Int) - b ^ p.toNat).fdiv ((b - 1) * b ^ (p - 1).toNat) + 1))) = _
    generalize ((r.natAbs : Int) - b ^ p.toNat).fdiv ((b - 1) * b ^ (p - 1).toNat) = q
    have e1 : (r.natAbs : Int) - (q + 1) * ((b - 1) * b ^ (p - 1).toNat) = b ^ (p - 1).toNat + ((r.natAbs : Int) - b ^ p.toNat) - q * ((b - 1) * b ^ (p - 1).toNat) := by
      rw [Int.add_mul]
      omega
    have e2 : lo + (q + 1) = lo + 1 + q := by omega
    rw [e1, e2]
    simp only [vlD, sgn, decide_eq_true_eq]
/-! _law_middle -/
def b_law_middle : IS := .seq (.ifs (.cmp .eq (.var 1) (.tup (.cons (.cst (.str (Str.ofString "none"))) .nil))) (.seq (.ret (.cst .none)) .skip) (.skip)) (.seq (.asg (.tup (.cons (.var 2) (.cons (.var 3) .nil))) (.tup (.cons (.call 0 (.cons (.var 0) (.cons (.ixc (.var 1) 1) .nil))) (.cons (.call 0 (.cons (.var 0) (.cons (.ixc (.var 1) 2) .nil))) .nil)))) (.seq (.ret (.ife (.cmp .lt (.bin .sub (.var 3) (.var 2)) (.cst (.int 2))) (.cst .none) (.call 1 (.cons (.var 0) (.cons (.bin .fdiv (.bin .add (.var 2) (.var 3)) (.cst (.int 2))) .nil))))) .skip))
def tb_law_middle : Tb := ⟨[((Str.ofString "_law_rank"), 2, sp_law_rank), ((Str.ofString "_law_ranked"), 2, sp_law_ranked)], []⟩
theorem tbm_law_middle : tb_law_middle.Mono := Tb.mono_of fun q hq => by
  simp only [tb_law_middle, List.mem_cons, List.not_mem_nil, or_false] at hq
  rcases hq with rfl | rfl
  · exact mono_law_rank
  · exact mono_law_ranked
def sp_law_middle : Sem := fun vs g Q => ∃ f s, vs = [.d (fmD f), .d (spD s)] ∧ (FmOk f ∧ SpanOk f s) ∧ Q (.d (oD (midV f s))) g
theorem mono_law_middle : SemMono sp_law_middle := fun vs g Q Q' h ⟨f, s, e, a, q⟩ => ⟨f, s, e, a, h _ _ q⟩
theorem pure_law_middle : ∀ vs g Q, sp_law_middle vs g Q → semF tb_law_middle 4 b_law_middle vs g Q := by
  rintro _ g Q ⟨f, s, rfl, ⟨hf, hs⟩, h⟩
  cases s with
  | no =>
    walk_at "vp"
    all_goals first | exact h | trace_state
  | sp a b =>
    have o1 : FmOk f ∧ VlOk f a ∧ notNan a := ⟨hf, hs.a.ok, hs.a.nn⟩
    have o2 : FmOk f ∧ VlOk f b ∧ notNan b := ⟨hf, hs.b.ok, hs.b.nn⟩
    walk_at "vp"
    refine ⟨f, a, rfl, o1, ?_⟩
    walk_at "vp"
    refine ⟨f, b, rfl, o2, ?_⟩
    rcases mid_end hf hs with ⟨e1, e2⟩ | ⟨e1, m, e2, k⟩
    · rw [e2] at h
      walk_at "vp"
      all_goals first | exact h | trace_state
    · have hm : midV f (.sp a b) = atV f ((rkV f a + rkV f b).fdiv 2) := if_neg (by omega)
      have ha := end_rk hf hs.a
      have hb := end_rk hf hs.b
      have e : (rkV f a + rkV f b).fdiv 2 = (rkV f a + rkV f b) / 2 := Int.fdiv_eq_ediv_of_nonneg _ (by decide)
      have hX : (((rkV f a + rkV f b).fdiv 2).natAbs : Int) ≤ f.X := by rw [e]; omega
      rw [hm, atW_eq] at h
      walk_at "vp"
      refine ⟨f, _, rfl, ⟨hf, hX⟩, ?_⟩
      walk_at "w"
      exact h
/-! _law_widest -/
def b_law_widest : IS := .seq (.asg (.var 2) (.cmpr 0 [3] (.var 3) (.var 1) (.nil) (.ife (.cmp .ne (.var 3) (.tup (.cons (.cst (.str (Str.ofString "none"))) .nil))) (.bin .sub (.call 0 (.cons (.var 0) (.cons (.ixc (.var 3) 2) .nil))) (.call 0 (.cons (.var 0) (.cons (.ixc (.var 3) 1) .nil)))) (.neg (.cst (.int 1)))))) (.seq (.ret (.ife (.oo (.cmp .eq (.var 2) (.lst 0 (.nil))) (.cmp .lt (.blt .maxL 0 (.cons (.var 2) .nil)) (.cst (.int 2)))) (.cst .none) (.idx (.var 2) (.blt .maxL 0 (.cons (.var 2) .nil))))) .skip)
def tb_law_widest : Tb := ⟨[((Str.ofString "_law_rank"), 2, sp_law_rank)], []⟩
theorem tbm_law_widest : tb_law_widest.Mono := Tb.mono_of fun q hq => by
  simp only [tb_law_widest, List.mem_cons, List.not_mem_nil, or_false] at hq
  subst hq
  exact mono_law_rank
def sp_law_widest : Sem := fun vs g Q => ∃ f ss, vs = [.d (fmD f), .d (boxD ss)] ∧ (FmOk f ∧ BoxOk f ss) ∧ ∀ o, WidTo f ss o → Q (.d (oNat o)) g
theorem mono_law_widest : SemMono sp_law_widest := fun vs g Q Q' h ⟨f, ss, e, a, q⟩ => ⟨f, ss, e, a, fun o w => h _ _ (q o w)⟩
theorem pure_law_widest : ∀ vs g Q, sp_law_widest vs g Q → semF tb_law_widest 4 b_law_widest vs g Q := by
  rintro _ g Q ⟨f, ss, rfl, ⟨hf, hs⟩, h⟩
  have hl := hs.len
  refine seq_cut tbm_law_widest (fun env st => ∃ z3, env = [some (.d (fmD f)), some (.d (boxD ss)), some (.d (.list ((ss.map (apart' f)).map PyData.int))), z3] ∧ st = ⟨g, []⟩) ?_ ?_
  · walk_at "w"
    refine ⟨by simp; omega, ?_⟩
    refine loopC_inv tbm_law_widest (fun i st acc => st = ⟨g, []⟩ ∧ acc = ((ss.take i).map (apart' f)).map PyData.int) ?_ ?_ ⟨rfl, rfl⟩
    · rintro i y _ _ hy ⟨rfl, rfl⟩
      rw [List.getElem?_map] at hy
      cases e : ss[i]? with
      | none => rw [e] at hy; cases hy
      | some s =>
        rw [e] at hy
        cases hy
        have so := hs.ok s (List.mem_of_getElem? e)
        have ta : ss.take (i + 1) = ss.take i ++ [s] := by rw [List.take_add_one, e]; rfl
        rw [ta]
        cases s with
        | no =>
          walk_at "vp"
          all_goals first | (simp [apart']; done) | trace_state
        | sp a b =>
          have o1 : FmOk f ∧ VlOk f a ∧ notNan a := ⟨hf, so.a.ok, so.a.nn⟩
          have o2 : FmOk f ∧ VlOk f b ∧ notNan b := ⟨hf, so.b.ok, so.b.nn⟩
          walk_at "vp"
          all_goals try refine ⟨f, b, rfl, o2, ?_⟩
          all_goals walk_at "vp"
          all_goals try refine ⟨f, a, rfl, o1, ?_⟩
          all_goals walk_at "vp"
          all_goals first | (simp [apart']; done) | trace_state
    · rintro _ _ ⟨rfl, rfl⟩
      rw [show ss.take (List.map spD ss).length = ss by simp]
      walk_at "vp"
      exact ⟨_, rfl, rfl⟩
  rintro _ _ ⟨z3, rfl, rfl⟩
  cases ss with
  | nil =>
    have := h none (fun s hs => by cases hs)
    walk_at "vp"
    all_goals first | exact this | trace_state
  | cons s0 ss0 =>
    generalize hss : s0 :: ss0 = ss at *
    have ap : ∀ s, (apart' f s = -1 ∧ apart f s = 0) ∨ apart' f s = apart f s := fun s => by cases s <;> simp [apart', apart]
    have shp : Shp (.list ((ss.map (apart' f)).map PyData.int)) := (Fit.lst (k := 0) (w := 4310) fun d hd => by
      obtain ⟨n, hn, rfl⟩ := List.mem_map.mp hd
      obtain ⟨s, hs', rfl⟩ := List.mem_map.mp hn
      have so := hs.ok s hs'
      cases s with
      | no => exact Fit.bd (k := 64) (Bd.lit64 (-1) (by decide)) (by decide)
      | sp a b => exact Fit.bd ((hf.bdR so.b.ok).sub (hf.bdR so.a.ok)) (by decide)).shp (by decide)
    have shn : Shp (.list []) := (Fit.lst (k := 0) (w := 0) all_nil).shp (by decide)
    have ne : PyData.eqv (.list ((ss.map (apart' f)).map PyData.int)) (.list []) = false := by rw [← hss]; rfl
    have nn : ss.map (apart' f) ≠ [] := by rw [← hss]; simp
    walk_at "w"
    refine And.intro (.inr ⟨shp, shn⟩) ?_
    rw [ne]
    refine And.intro (fun z => nomatch z) (fun _ => ?_)
    walk_at "w"
    refine ⟨_, ⟨rfl, nn⟩, fun m hm hmax => ?_⟩
    walk_at "w"
    refine And.intro (fun z => ?_) (fun z => ?_)
    · have z := of_decide_eq_true z
      have hw : WidTo f ss none := fun s hs' => by
        have := hmax _ (List.mem_map.mpr ⟨s, hs', rfl⟩)
        rcases ap s with ⟨_, q⟩ | q <;> omega
      walk_at "w"
      exact h none hw
    · have z : ¬ m < 2 := of_decide_eq_false z
      walk_at "w"
      refine And.intro trivial ?_
      walk_at "w"
      refine ⟨_, ⟨rfl, nn⟩, fun m' hm' hmax' => ?_⟩
      have em : m' = m := by
        have := hmax m' hm'
        have := hmax' m hm
        omega
      subst em
      walk_at "w"
      refine ⟨_, ⟨rfl, hm'⟩, fun j hj hb => ?_⟩
      rw [List.getElem?_map] at hj
      obtain ⟨s, e, es⟩ : ∃ s, ss[j]? = some s ∧ apart' f s = m' := by
        cases q : ss[j]? with
        | none => rw [q] at hj; cases hj
        | some s => rw [q] at hj; cases hj; exact ⟨s, rfl, rfl⟩
      have hw : WidTo f ss (some j) := by
        have eq : apart f s = m' := by rcases ap s with ⟨q1, q⟩ | q <;> omega
        refine ⟨s, e, by omega, fun t ht => ?_, fun k t hk ht => ?_⟩
        · have := hmax' _ (List.mem_map.mpr ⟨t, ht, rfl⟩)
          rcases ap t with ⟨q1, q⟩ | q <;> omega
        · have := hmax' _ (List.mem_map.mpr ⟨t, List.mem_of_getElem? ht, rfl⟩)
          have n := hb k hk
          rw [List.getElem?_map, ht] at n
          have n : apart' f t ≠ m' := fun z => n (by rw [← z]; rfl)
          rcases ap t with ⟨q1, q⟩ | q <;> omega
      walk_at "w"
      exact h (some j) hw
/-! _law_parted -/
def b_law_parted : IS := .seq (.asg (.var 3) (.call 0 (.cons (.var 0) (.cons (.ix (.var 1) (.var 2)) .nil)))) (.seq (.ifs (.isN (.var 3)) (.seq (.ret (.cst .none)) .skip) (.skip)) (.seq (.asg (.tup (.cons (.var 4) (.cons (.var 5) .nil))) (.tup (.cons (.tup (.cons (.cst (.str (Str.ofString "span"))) (.cons (.ixc (.ix (.var 1) (.var 2)) 1) (.cons (.var 3) .nil)))) (.cons (.tup (.cons (.cst (.str (Str.ofString "span"))) (.cons (.var 3) (.cons (.ixc (.ix (.var 1) (.var 2)) 2) .nil)))) .nil)))) (.seq (.ret (.tup (.cons (.bin .add (.bin .add (.sl 0 (.var 1) (.nil) (.var 2)) (.tup (.cons (.var 4) .nil))) (.sl 0 (.var 1) (.bin .add (.var 2) (.cst (.int 1))) (.nil))) (.cons (.bin .add (.bin .add (.sl 0 (.var 1) (.nil) (.var 2)) (.tup (.cons (.var 5) .nil))) (.sl 0 (.var 1) (.bin .add (.var 2) (.cst (.int 1))) (.nil))) .nil)))) .skip)))
def tb_law_parted : Tb := ⟨[((Str.ofString "_law_middle"), 2, sp_law_middle)], []⟩
theorem tbm_law_parted : tb_law_parted.Mono := Tb.mono_of fun q hq => by
  simp only [tb_law_parted, List.mem_cons, List.not_mem_nil, or_false] at hq
  subst hq
  exact mono_law_middle
def sp_law_parted : Sem := fun vs g Q => ∃ f ss i s, vs = [.d (fmD f), .d (boxD ss), .d (.int (i : Nat))] ∧ (FmOk f ∧ BoxOk f ss ∧ ss[i]? = some s) ∧ Q (.d (partD f ss i s)) g
theorem mono_law_parted : SemMono sp_law_parted := fun vs g Q Q' h ⟨f, ss, i, s, e, a, q⟩ => ⟨f, ss, i, s, e, a, h _ _ q⟩
theorem pure_law_parted : ∀ vs g Q, sp_law_parted vs g Q → semF tb_law_parted 6 b_law_parted vs g Q := by
  rintro _ g Q ⟨f, ss, i, s, rfl, ⟨hf, hs, e⟩, h⟩
  have so := hs.ok s (List.mem_of_getElem? e)
  have hi : i < ss.length := (List.getElem?_eq_some_iff.mp e).1
  have ea : L2.atI (ss.map spD) (i : Int) = some (spD s) := L2.atI_nat (by rw [List.getElem?_map, e]; rfl)
  have c1 : cutD (ss.map spD) none (some (i : Int)) = (ss.take i).map spD := by rw [cut_to (by simp; omega), List.map_take]
  have c2 : cutD (ss.map spD) (some ((i : Int) + 1)) none = (ss.drop (i + 1)).map spD := by
    rw [show (i : Int) + 1 = ((i + 1 : Nat) : Int) by omega, cut_from (by simp; omega), List.map_drop]
  have hl := hs.len
  walk_at "w"
  rw [ea]
  walk_at "w"
  refine ⟨f, s, rfl, ⟨hf, so⟩, ?_⟩
  cases s with
  | no =>
    walk_at "vp"
    exact h
  | sp a b =>
    have h : Q (.d (match midV f (.sp a b) with
        | some m => .tuple [.tuple (((ss.take i ++ [Sp.sp a m]) ++ ss.drop (i + 1)).map spD), .tuple (((ss.take i ++ [Sp.sp m b]) ++ ss.drop (i + 1)).map spD)]
        | none => .none)) g := h
    rcases mid_end hf so with ⟨_, em⟩ | ⟨_, m, em, k, l, _⟩
    · rw [em] at h ⊢
      walk_at "vp"
      all_goals first | exact h | trace_state
    · rw [em] at h ⊢
      have nm : isNonD (oD (some m)) = false := isNonD_o _
      walk_at "w"
      rw [nm]
      refine And.intro (fun z => nomatch z) (fun _ => ?_)
      walk_at "w"
      rw [ea]
      walk_at "w"
      rw [ea]
      walk_at "w"
      refine And.intro rfl ?_
      walk_at "w"
      rw [c1]
      refine And.intro (by simp; omega) ?_
      walk_at "w"
      rw [c2]
      refine And.intro (by simp; omega) ?_
      walk_at "w"
      rw [c1]
      refine And.intro (by simp; omega) ?_
      walk_at "w"
      rw [c2]
      refine And.intro (by simp; omega) ?_
      walk_at "w"
      refine Eq.mp (congrArg (fun z : D => Q (.d z) g) ?_) h
      simp
      exact ⟨rfl, rfl⟩
/-! _law_full_box -/
def b_law_full_box : IS := .seq (.par [4, 5] (.cons (.lst 1 (.nil)) (.cons (.bin .sub (.call 0 (.cons (.var 1) (.cons (.tup (.cons (.cst (.str (Str.ofString "inf"))) (.cons (.cst (.int 0)) .nil))) .nil))) (.cst (.int 1))) .nil))) (.seq (.fr (.var 3) (.rng (.cons (.var 2) .nil)) (.seq (.asg (.var 6) (.call 1 (.cons (.var 0) (.cons (.lst 0 (.cons (.cst (.int 0)) (.cons (.cst (.int 1)) (.cons (.neg (.cst (.int 1))) (.cons (.bin .sub (.call 2 (.cons (.var 0) (.cons (.bin .add (.bin .mul (.cst (.int 2)) (.var 5)) (.cst (.int 1))) .nil))) (.var 5)) (.cons (.call 2 (.cons (.var 0) (.cons (.bin .add (.var 5) (.cst (.int 1))) .nil))) (.cons (.call 2 (.cons (.var 0) (.cons (.bin .add (.var 5) (.cst (.int 1))) .nil))) .nil))))))) .nil)))) (.seq (.asg (.var 7) (.blt .min2 0 (.cons (.var 5) (.cons (.bin .add (.var 6) (.call 1 (.cons (.var 0) (.cons (.lst 0 (.cons (.cst (.int 0)) (.cons (.cst (.int 1)) (.cons (.call 2 (.cons (.var 0) (.cons (.cst (.int 6)) .nil))) (.cons (.call 2 (.cons (.var 0) (.cons (.var 5) .nil))) (.cons (.call 2 (.cons (.var 0) (.cons (.cst (.int 12)) .nil))) (.cons (.var 5) .nil))))))) .nil)))) .nil)))) (.seq (.app (.var 4) (.tup (.cons (.cst (.str (Str.ofString "span"))) (.cons (.call 3 (.cons (.var 1) (.cons (.var 6) .nil))) (.cons (.call 3 (.cons (.var 1) (.cons (.var 7) .nil))) .nil))))) .skip)))) (.seq (.ret (.blt .tuple 0 (.cons (.var 4) .nil))) .skip))
def tb_law_full_box : Tb := ⟨[((Str.ofString "_law_rank"), 2, sp_law_rank), ((Str.ofString "_law_some"), 2, sp_law_some), ((Str.ofString "_law_take"), 2, sp_law_take), ((Str.ofString "_law_ranked"), 2, sp_law_ranked)], []⟩
theorem tbm_law_full_box : tb_law_full_box.Mono := Tb.mono_of fun q hq => by
  simp only [tb_law_full_box, List.mem_cons, List.not_mem_nil, or_false] at hq
  rcases hq with rfl | rfl | rfl | rfl
  · exact mono_law_rank
  · exact mono_law_some
  · exact mono_law_take
  · exact mono_law_ranked
def sp_law_full_box : Sem := fun vs g Q => ∃ f m xs gs, vs = [.gm 0, .d (fmD f), .d (.int (m : Nat))] ∧ g = xs :: gs ∧ ∃ C, (BagAt C xs ∧ C < 2 ^ 57 ∧ FmOk f ∧ m ≤ 3) ∧ ∀ ss xs', BoxOk f ss → ss.length = m → (∀ s ∈ ss, ∃ a b, s = .sp a b ∧ (∀ z, a ≠ .inf z) ∧ ∀ z, b ≠ .inf z) → BagAt (C + 16 * m) xs' → Q (.d (boxD ss)) (xs' :: gs)
theorem mono_law_full_box : SemMono sp_law_full_box := fun vs g Q Q' h ⟨f, m, xs, gs, e1, e2, C, a, q⟩ => ⟨f, m, xs, gs, e1, e2, C, a, fun ss xs' h1 h2 h3 h4 => h _ _ (q ss xs' h1 h2 h3 h4)⟩
theorem pure_law_full_box : ∀ vs g Q, sp_law_full_box vs g Q → semF tb_law_full_box 8 b_law_full_box vs g Q := by
  rintro _ _ Q ⟨f, m, xs, gs, rfl, rfl, C, ⟨hb, hC, hf, hm⟩, h⟩
  have inf : FmOk f ∧ VlOk f (.inf 0) ∧ notNan (.inf 0) := ⟨hf, .inl rfl, trivial⟩
  have rkx : rkV f (.inf 0) = f.X := rfl
  have bX := hf.bdX
  have XT := hf.XF
  have TF := hf.TF
  have F2 := hf.F2
  have W0 := hf.W_pos
  refine seq_cut tbm_law_full_box (fun env st => env = [some (.gm 0), some (.d (fmD f)), some (.d (.int (m : Nat))), none, some (.lm 0), some (.d (.int (f.X - 1))), none, none] ∧ st = ⟨xs :: gs, [some []]⟩) ?_ ?_
  · walk_at "w"
    refine ⟨f, .inf 0, rfl, inf, ?_⟩
    rw [rkx]
    walk_at "w"
    exact ⟨rfl, rfl⟩
  rintro _ _ ⟨rfl, rfl⟩
  refine fr_post tbm_law_full_box ?_
  walk_at "w"
  refine And.intro ⟨by omega, by omega⟩ ?_
  walk_at "w"
  refine ⟨fun i env st => ∃ z3 z6 z7 x, ∃ ss : List Sp, env = [some (.gm 0), some (.d (fmD f)), some (.d (.int (m : Nat))), z3, some (.lm 0), some (.d (.int (f.X - 1))), z6, z7] ∧ st = ⟨x :: gs, [some (ss.map spD)]⟩ ∧ ss.length = i ∧ (∀ s ∈ ss, SpanOk f s ∧ ∃ a b, s = .sp a b ∧ (∀ z, a ≠ .inf z) ∧ ∀ z, b ≠ .inf z) ∧ BagAt (C + 16 * i) x, ?_, ?_, ⟨none, none, none, xs, [], rfl, rfl, rfl, (fun s hs => by cases hs), hb⟩⟩
  · clear hb
    rintro i y _ _ hy ⟨z3, z6, z7, x, ss, rfl, rfl, hl, ho, hb⟩
    obtain ⟨hi, rfl⟩ := upto_get hy
    have hi : i < m := by omega
    refine tgt_var ?_
    dsimp only [put]
    refine seq_cut tbm_law_full_box (fun env st => ∃ r x, env = [some (.gm 0), some (.d (fmD f)), some (.d (.int (m : Nat))), some (.d (.int (0 + i))), some (.lm 0), some (.d (.int (f.X - 1))), some (.d (.int r)), z7] ∧ st = ⟨x :: gs, [some (ss.map spD)]⟩ ∧ (-(f.X - 1) ≤ r ∧ r ≤ f.X - 1) ∧ BagAt (C + 16 * i + 4) x) ?_ ?_
    · have b1 : Bd 8000 (2 * (f.X - 1) + 1) := (((Bd.lit64 2 (by decide)).mul (bX.sub (Bd.lit64 1 (by decide)))).add (Bd.lit64 1 (by decide))).up (by decide)
      have b2 : Bd 8000 (f.X - 1 + 1) := ((bX.sub (Bd.lit64 1 (by decide))).add (Bd.lit64 1 (by decide))).up (by decide)
      walk_at "vp"
      refine ⟨C + 16 * i, ⟨hb, by omega, by omega, b1⟩, fun v1 x1 a1 c1 hb1 => ?_⟩
      walk_at "vp"
      refine ⟨C + 16 * i + 1, ⟨hb1, by omega, by omega, b2⟩, fun v2 x2 a2 c2 hb2 => ?_⟩
      walk_at "vp"
      refine ⟨C + 16 * i + 2, ⟨hb2, by omega, by omega, b2⟩, fun v3 x3 a3 c3 hb3 => ?_⟩
      walk_at "vp"
      refine ⟨C + 16 * i + 3, ⟨hb3, by omega, by simp, by simp⟩, fun y x4 hy hb4 => ?_⟩
      obtain ⟨r, rfl, r1, r2⟩ : ∃ r : Int, y = .int r ∧ -(f.X - 1) ≤ r ∧ r ≤ f.X - 1 := by
        simp only [List.mem_cons, List.not_mem_nil, or_false] at hy
        rcases hy with rfl | rfl | rfl | rfl | rfl | rfl <;> exact ⟨_, rfl, by omega, by omega⟩
      walk_at "vp"
      exact ⟨r, x4, rfl, rfl, ⟨r1, r2⟩, hb4⟩
    clear hb
    rintro _ _ ⟨r, x, rfl, rfl, ⟨r1, r2⟩, hb⟩
    refine seq_cut tbm_law_full_box (fun env st => ∃ t x, env = [some (.gm 0), some (.d (fmD f)), some (.d (.int (m : Nat))), some (.d (.int (0 + i))), some (.lm 0), some (.d (.int (f.X - 1))), some (.d (.int r)), some (.d (.int t))] ∧ st = ⟨x :: gs, [some (ss.map spD)]⟩ ∧ (r ≤ t ∧ t ≤ f.X - 1) ∧ BagAt (C + 16 * i + 12) x) ?_ ?_
    · have b1 : Bd 8000 (f.X - 1) := (bX.sub (Bd.lit64 1 (by decide))).up (by decide)
      walk_at "vp"
      refine ⟨C + 16 * i + 4, ⟨hb, by omega, by decide, Bd.up (k := 64) (by walk_at "bd") (by decide)⟩, fun v1 x1 a1 c1 hb1 => ?_⟩
      walk_at "vp"
      refine ⟨C + 16 * i + 5, ⟨hb1, by omega, by omega, b1⟩, fun v2 x2 a2 c2 hb2 => ?_⟩
      walk_at "vp"
      refine ⟨C + 16 * i + 6, ⟨hb2, by omega, by decide, Bd.up (k := 64) (by walk_at "bd") (by decide)⟩, fun v3 x3 a3 c3 hb3 => ?_⟩
      walk_at "vp"
      refine ⟨C + 16 * i + 7, ⟨hb3, by omega, by simp, by simp⟩, fun y x4 hy hb4 => ?_⟩
      obtain ⟨t, rfl, t1⟩ : ∃ t : Int, y = .int t ∧ 0 ≤ t := by
        simp only [List.mem_cons, List.not_mem_nil, or_false] at hy
        rcases hy with rfl | rfl | rfl | rfl | rfl | rfl <;> exact ⟨_, rfl, by omega⟩
      walk_at "vp"
      exact ⟨min (f.X - 1) (r + t), x4, rfl, rfl, ⟨by omega, by omega⟩, hb4.up (by omega)⟩
    clear hb
    rintro _ _ ⟨t, x, rfl, rfl, ⟨t1, t2⟩, hb⟩
    obtain ⟨a, ea, ka, ra, na⟩ := at_end hf (r := r) (by omega)
    obtain ⟨b, eb, kb, rb, nb⟩ := at_end hf (r := t) (by omega)
    have na := na (by omega)
    have nb := nb (by omega)
    walk_at "w"
    refine And.intro trivial ?_
    walk_at "w"
    refine ⟨f, r, rfl, ⟨hf, by omega⟩, ?_⟩
    rw [← atW_eq, ea]
    walk_at "w"
    refine ⟨f, t, rfl, ⟨hf, by omega⟩, ?_⟩
    rw [← atW_eq, eb]
    walk_at "w"
    refine And.intro (by simp [hl]; omega) ?_
    walk_at "w"
    refine ⟨_, _, _, x, ss ++ [.sp a b], rfl, ?_, by simp [hl], fun s hs => ?_, hb.up (by omega)⟩
    · simp [oD, spD]
    · rcases List.mem_append.mp hs with q | q
      · exact ho s q
      · rw [List.mem_singleton.mp q]
        exact ⟨⟨ka, kb, na 0, nb 1⟩, a, b, rfl, na, nb⟩
  · rintro _ _ ⟨z3, z6, z7, x, ss, rfl, rfl, hl, ho, hb⟩
    have hl : ss.length = m := by rw [hl]; simp [upto]
    walk_at "w"
    refine h ss x ⟨by omega, fun s hs => (ho s hs).1⟩ hl (fun s hs => (ho s hs).2) (hb.up ?_)
    simp [upto]
/-! law -/
def b_law : IS := .seq (.asg (.var 1) (.call 0 (.cons (.var 0) .nil))) (.seq (.fr (.var 2) (.rng (.cons (.cst (.int 8)) .nil)) (.seq (.asg (.var 3) (.call 1 (.cons (.var 1) .nil))) (.seq (.asg (.var 4) (.ife (.cmp .eq (.call 2 (.cons (.var 1) (.cons (.cst (.int 2)) .nil))) (.cst (.int 0))) (.call 3 (.cons (.var 1) (.cons (.var 3) (.cons (.call 2 (.cons (.var 1) (.cons (.cst (.int 4)) .nil))) .nil)))) (.call 4 (.cons (.var 1) (.cons (.var 3) (.cons (.bin .add (.cst (.int 1)) (.call 2 (.cons (.var 1) (.cons (.cst (.int 3)) .nil)))) .nil)))))) (.seq (.asg (.var 5) (.blt .repr 0 (.cons (.var 4) .nil))) (.seq (.ifs (.nt (.call 5 (.cons (.cmpr 0 [7] (.var 7) (.var 4) (.nil) (.call 6 (.cons (.var 3) (.cons (.var 7) .nil)))) (.cons (.cmpr 0 [7] (.var 7) (.var 4) (.nil) (.call 7 (.cons (.var 3) (.cons (.var 7) .nil)))) .nil)))) (.seq (.ret (.cst (.bool false))) .skip) (.skip)) (.seq (.ifs (.nt (.call 5 (.cons (.call 8 (.cons (.var 3) (.cons (.var 4) .nil))) (.cons (.call 9 (.cons (.var 3) (.cons (.var 4) .nil))) .nil)))) (.seq (.ret (.cst (.bool false))) .skip) (.skip)) (.seq (.fr (.var 6) (.rng (.cons (.blt .len 0 (.cons (.var 4) .nil)) .nil)) (.seq (.ifs (.nt (.call 5 (.cons (.call 10 (.cons (.var 3) (.cons (.var 4) (.cons (.var 6) .nil)))) (.cons (.call 11 (.cons (.var 3) (.cons (.var 4) (.cons (.var 6) .nil)))) .nil)))) (.seq (.ret (.cst (.bool false))) .skip) (.skip)) .skip)) (.seq (.ifs (.cmp .ne (.blt .repr 0 (.cons (.var 4) .nil)) (.var 5)) (.seq (.ret (.cst (.bool false))) .skip) (.skip)) .skip)))))))) (.seq (.ret (.cst (.bool true))) .skip))
def tb_law : Tb := ⟨[((Str.ofString "_law_bag"), 1, sp_law_bag), ((Str.ofString "_law_any_format"), 1, sp_law_any_format), ((Str.ofString "_law_take"), 2, sp_law_take), ((Str.ofString "_law_box"), 3, sp_law_box), ((Str.ofString "_law_full_box"), 3, sp_law_full_box), ((Str.ofString "_law_alike"), 2, sp_law_alike), ((Str.ofString "middle_of"), 2, sp_middle_of), ((Str.ofString "_law_middle"), 2, sp_law_middle), ((Str.ofString "widest"), 2, sp_widest), ((Str.ofString "_law_widest"), 2, sp_law_widest), ((Str.ofString "parted_box"), 3, sp_parted_box), ((Str.ofString "_law_parted"), 3, sp_law_parted)], []⟩
theorem tbm_law : tb_law.Mono := Tb.mono_of fun q hq => by
  simp only [tb_law, List.mem_cons, List.not_mem_nil, or_false] at hq
  rcases hq with rfl | rfl | rfl | rfl | rfl | rfl | rfl | rfl | rfl | rfl | rfl | rfl
  · exact mono_law_bag
  · exact mono_law_any_format
  · exact mono_law_take
  · exact mono_law_box
  · exact mono_law_full_box
  · exact mono_law_alike
  · exact mono_middle_of
  · exact mono_law_middle
  · exact mono_widest
  · exact mono_law_widest
  · exact mono_parted_box
  · exact mono_law_parted
def sp_law : Sem := semF tb_law 8 b_law
theorem mono_law : SemMono sp_law := semF_mono tbm_law _ _
theorem pure_law : ∀ vs g Q, sp_law vs g Q → semF tb_law 8 b_law vs g Q := fun _ _ _ q => q
theorem plain_law (ns : List Int) (hlen : ns.length ≤ 63) : sp_law [.sc (ns.map PyData.int)] [] fun ev _ => ev = .d (.bool true) := by
  unfold sp_law
  refine seq_cut tbm_law (fun env st => ∃ x, env = [some (.sc (ns.map PyData.int)), some (.gm 0), none, none, none, none, none, none] ∧ st = ⟨[x], []⟩ ∧ BagAt 0 x) ?_ ?_
  · walk_at "w"
    refine ⟨⟨ns, rfl⟩, fun bag hb => ?_⟩
    walk_at "vi"
    exact ⟨bag, rfl, rfl, hb⟩
  rintro _ _ ⟨x, rfl, rfl, hb⟩
  refine fr_post tbm_law ?_
  walk_at "w"
  refine ⟨by decide, ?_⟩
  walk_at "w"
  refine ⟨fun i env st => ∃ z2 z3 z4 z5 z6 z7 x, env = [some (.sc (ns.map PyData.int)), some (.gm 0), z2, z3, z4, z5, z6, z7] ∧ st = ⟨[x], []⟩ ∧ BagAt (100 * i) x, ?_, ?_, ⟨_, _, _, _, _, _, x, rfl, rfl, hb⟩⟩
  rotate_left
  · rintro _ _ ⟨z2, z3, z4, z5, z6, z7, x, rfl, rfl, hb⟩
    walk_at "vi"
    all_goals first | rfl | trace_state
  clear hb
  rintro i y _ _ hy ⟨z2, z3, z4, z5, z6, z7, x, rfl, rfl, hb⟩
  obtain ⟨hi, rfl⟩ := upto_get hy
  have hi : i < 8 := hi
  refine tgt_var ?_
  dsimp only [put]
  refine cut2 tbm_law (fun env st => ∃ f ss x, env = [some (.sc (ns.map PyData.int)), some (.gm 0), some (.d (.int (0 + i))), some (.d (fmD f)), some (.d (boxD ss)), z5, z6, z7] ∧ st = ⟨[x], []⟩ ∧ (FmOk f ∧ BoxOk f ss) ∧ BagAt (100 * i + 90) x) ?_ ?_
  · walk_at "w"
    refine ⟨x, [], rfl, rfl, 100 * i, ⟨hb, by omega⟩, fun f x1 hA hb1 => ?_⟩
    have hf := fmA_ok hA
    walk_at "vp"
    refine ⟨100 * i + 3, ⟨hb1, by omega, by decide, Bd.up (k := 64) (by walk_at "bd") (by decide)⟩, fun v x2 v0 v1 hb2 => ?_⟩
    walk_at "vp"
    · refine ⟨100 * i + 4, ⟨hb2, by omega, by decide, Bd.up (k := 64) (by walk_at "bd") (by decide)⟩, fun w x3 w0 w1 hb3 => ?_⟩
      obtain ⟨m, rfl⟩ := Int.eq_ofNat_of_zero_le w0
      walk_at "w"
      refine ⟨f, m, x3, [], rfl, rfl, 100 * i + 5, ⟨hb3, by omega, hf, by omega⟩, fun ss x4 hs _ hb4 => ?_⟩
      walk_at "w"
      exact ⟨f, ss, x4, rfl, rfl, ⟨hf, hs⟩, hb4.up (by omega)⟩
    · refine ⟨100 * i + 4, ⟨hb2, by omega, by decide, Bd.up (k := 64) (by walk_at "bd") (by decide)⟩, fun w x3 w0 w1 hb3 => ?_⟩
      obtain ⟨m, rfl⟩ := Int.eq_ofNat_of_zero_le w0
      walk_at "w"
      rw [show (1 : Int) + (m : Int) = ((m + 1 : Nat) : Int) by omega]
      refine ⟨f, m + 1, x3, [], rfl, rfl, 100 * i + 5, ⟨hb3, by omega, hf, by omega⟩, fun ss x4 hs _ _ hb4 => ?_⟩
      walk_at "w"
      exact ⟨f, ss, x4, rfl, rfl, ⟨hf, hs⟩, hb4.up (by omega)⟩
  clear hb
  rintro _ _ ⟨f, ss, x, rfl, rfl, ⟨hf, hs⟩, hb⟩
  have bf := box_fit hf hs.ok (by have := hs.len; omega)
  have bl := hs.len
  refine seq_cut tbm_law (fun env st => env = [some (.sc (ns.map PyData.int)), some (.gm 0), some (.d (.int (0 + i))), some (.d (fmD f)), some (.d (boxD ss)), some (.d (.str (boxD ss).shown)), z6, z7] ∧ st = ⟨[x], []⟩) ?_ ?_
  · have rp : RepOk (boxD ss) := bf.rep (by decide) (by decide)
    walk_at "w"
    refine And.intro rp ?_
    walk_at "w"
    exact ⟨rfl, rfl⟩
  rintro _ _ ⟨rfl, rfl⟩
  have eT : (boxD ss).shown = (boxD ss).shown := rfl
  generalize hT : (boxD ss).shown = T at eT
  have at1 : ∀ (j : Nat) (y : D), (ss.map spD)[j]? = some y → ∃ s, ss[j]? = some s ∧ y = spD s ∧ SpanOk f s ∧ ss.take (j + 1) = ss.take j ++ [s] := fun j y hy => by
    rw [List.getElem?_map] at hy
    cases e : ss[j]? with
    | none => rw [e] at hy; cases hy
    | some s =>
      rw [e] at hy
      cases hy
      exact ⟨s, rfl, rfl, hs.ok s (List.mem_of_getElem? e), by rw [List.take_add_one, e]; rfl⟩
  have rm : RepOk (.list (ss.map fun s => oD (midV f s))) := (Fit.lst (k := 2) (w := 18000) fun d hd => by
    obtain ⟨s, hs', rfl⟩ := List.mem_map.mp hd
    exact mid_fit hf (hs.ok s hs')).rep (by decide) (by rw [List.length_map]; omega)
  refine seq_cut tbm_law (fun env st => env = [some (.sc (ns.map PyData.int)), some (.gm 0), some (.d (.int (0 + i))), some (.d (fmD f)), some (.d (boxD ss)), some (.d (.str T)), z6, z7] ∧ st = ⟨[x], []⟩) ?_ ?_
  · walk_at "w"
    refine And.intro (by simp; omega) ?_
    refine loopC_inv tbm_law (fun j st acc => st = ⟨[x], []⟩ ∧ acc = (ss.take j).map fun s => oD (midV f s)) ?_ ?_ ⟨rfl, rfl⟩
    · rintro j y _ _ hy ⟨rfl, rfl⟩
      obtain ⟨s, _, rfl, so, e⟩ := at1 j y hy
      rw [e]
      walk_at "w"
      refine And.intro (fun _ => ?_) (fun z => nomatch z)
      walk_at "w"
      refine ⟨f, s, rfl, ⟨hf, so⟩, ?_⟩
      walk_at "w"
      exact ⟨rfl, by simp⟩
    · rintro _ _ ⟨rfl, rfl⟩
      rw [show ss.take (List.map spD ss).length = ss by simp]
      walk_at "w"
      refine And.intro (by simp; omega) ?_
      refine loopC_inv tbm_law (fun j st acc => st = ⟨[x], []⟩ ∧ acc = (ss.take j).map fun s => oD (midV f s)) ?_ ?_ ⟨rfl, rfl⟩
      · rintro j y _ _ hy ⟨rfl, rfl⟩
        obtain ⟨s, _, rfl, so, e⟩ := at1 j y hy
        rw [e]
        walk_at "w"
        refine And.intro (fun _ => ?_) (fun z => nomatch z)
        walk_at "w"
        refine ⟨f, s, rfl, ⟨hf, so⟩, ?_⟩
        walk_at "w"
        exact ⟨rfl, by simp⟩
      · rintro _ _ ⟨rfl, rfl⟩
        rw [show ss.take (List.map spD ss).length = ss by simp]
        walk_at "w"
        refine And.intro ⟨rfl, rm⟩ ?_
        walk_at "vi"
        all_goals first | exact ⟨rfl, rfl⟩ | trace_state
  rintro _ _ ⟨rfl, rfl⟩
  refine seq_cut tbm_law (fun env st => env = [some (.sc (ns.map PyData.int)), some (.gm 0), some (.d (.int (0 + i))), some (.d (fmD f)), some (.d (boxD ss)), some (.d (.str T)), z6, z7] ∧ st = ⟨[x], []⟩) ?_ ?_
  · walk_at "w"
    refine ⟨f, ss, rfl, ⟨hf, hs⟩, fun o h1 => ?_⟩
    walk_at "w"
    refine ⟨f, ss, rfl, ⟨hf, hs⟩, fun o' h2 => ?_⟩
    cases wid_uniq h1 h2
    have ro : RepOk (oNat o) := by
      cases o with
      | none => exact Fit.none.rep (by decide) (by decide)
      | some j =>
        obtain ⟨s, e, _⟩ := h1
        have := (List.getElem?_eq_some_iff.mp e).1
        exact (Fit.bd (k := 64) (i := (j : Int)) (Bd.lit64 _ (by omega)) (by decide)).rep (by decide) (by decide)
    walk_at "w"
    refine And.intro ⟨rfl, ro⟩ ?_
    walk_at "vi"
    all_goals first | exact ⟨rfl, rfl⟩ | trace_state
  rintro _ _ ⟨rfl, rfl⟩
  refine fr_post tbm_law ?_
  walk_at "w"
  refine ⟨by simp; omega, ?_⟩
  walk_at "w"
  refine ⟨fun _ env st => ∃ z6, env = [some (.sc (ns.map PyData.int)), some (.gm 0), some (.d (.int (0 + i))), some (.d (fmD f)), some (.d (boxD ss)), some (.d (.str T)), z6, z7] ∧ st = ⟨[x], []⟩, ?_, ?_, ⟨z6, rfl, rfl⟩⟩
  · rintro j y _ _ hy ⟨z6, rfl, rfl⟩
    obtain ⟨hj, rfl⟩ := upto_get hy
    have hj : j < ss.length := by simpa using hj
    have e : ss[j]? = some ss[j] := List.getElem?_eq_getElem hj
    generalize ss[j] = s at e
    have so := hs.ok s (List.mem_of_getElem? e)
    have rp := part_fit hf hs (i := j) so
    refine tgt_var ?_
    dsimp only [put]
    rw [show (0 : Int) + (j : Int) = ((j : Nat) : Int) from Int.zero_add _]
    walk_at "w"
    refine ⟨f, ss, j, s, rfl, ⟨hf, hs, e⟩, ?_⟩
    walk_at "w"
    refine ⟨f, ss, j, s, rfl, ⟨hf, hs, e⟩, ?_⟩
    walk_at "w"
    refine And.intro ⟨rfl, rp⟩ ?_
    walk_at "vi"
    all_goals first | exact ⟨_, rfl, rfl⟩ | trace_state
  rintro _ _ ⟨z6, rfl, rfl⟩
  have rp : RepOk (boxD ss) := bf.rep (by decide) (by decide)
  walk_at "w"
  refine And.intro rp ?_
  walk_at "w"
  refine And.intro (.inl rfl) ?_
  have er : PyData.eqv (.str (boxD ss).shown) (.str T) = true := by rw [eqv_str, hT, decide_eq_true rfl]
  rw [er]
  walk_at "vi"
  all_goals first | exact ⟨_, _, _, _, _, _, x, rfl, rfl, hb.up (by omega)⟩ | trace_state

end VI
namespace VI
open PySem PySem.Spec PyProof.Rows L2
open Hd
section
variable {P : Program} {w : World} {K : PySem.W.Frag} {mg : Str → Option Value} {base h : Heap}
theorem sc_whole_power : FnScope [(Str.ofString "base"), (Str.ofString "e"), (Str.ofString "found")] [(Str.ofString "base"), (Str.ofString "e")] (defScope (top 1)) := ⟨rfl, rfl, rfl, by decide +kernel, rfl, by decide +kernel, by decide +kernel⟩
theorem ck_whole_power : (ckS b_whole_power ⟨[(Str.ofString "base"), (Str.ofString "e"), (Str.ofString "found")], defScope (top 1), fun _ => true, tb_whole_power.fn.map fun q => (q.1, q.2.1), tb_whole_power.gl.map (·.1), ⟨false, false⟩⟩).ss (defBody (top 1)) = true := by decide +kernel
theorem good_whole_power (c : He.SaysD faL fnL K) (X : K.In h) (G : h.Ns mainGlobals mg) (M : ModG mg base ⟨false, false⟩) (E : exB K = true) : Good P w K mg base 1 (Str.ofString "whole_power") 2 sp_whole_power := by
  obtain ⟨fd, F⟩ := c.def_ 0 (d := mkD (Str.ofString "whole_power") (Str.ofString "whole_power") 1) rfl
  exact def_ok (k := 0) (ps := [(Str.ofString "base"), (Str.ofString "e")]) tb_whole_power b_whole_power M AllGood.nil AllGl.nil F sc_whole_power (F.bindsN fun _ _ _ _ _ _ us hl => match us, hl with | [_, _], _ => rfl) (He.glo_ok X G (c.fact 0 (f := .glo (Str.ofString "whole_power")) rfl)) mono_whole_power pure_whole_power ck_whole_power
theorem sc_rank_in : FnScope [(Str.ofString "form"), (Str.ofString "value"), (Str.ofString "wide"), (Str.ofString "base"), (Str.ofString "digits"), (Str.ofString "low"), (Str.ofString "high"), (Str.ofString "size")] [(Str.ofString "form"), (Str.ofString "value")] (defScope (top 2)) := ⟨rfl, rfl, rfl, by decide +kernel, rfl, by decide +kernel, by decide +kernel⟩
theorem ck_rank_in : (ckS b_rank_in ⟨[(Str.ofString "form"), (Str.ofString "value"), (Str.ofString "wide"), (Str.ofString "base"), (Str.ofString "digits"), (Str.ofString "low"), (Str.ofString "high"), (Str.ofString "size")], defScope (top 2), fun _ => true, tb_rank_in.fn.map fun q => (q.1, q.2.1), tb_rank_in.gl.map (·.1), ⟨false, false⟩⟩).ss (defBody (top 2)) = true := by decide +kernel
theorem good_rank_in (c : He.SaysD faL fnL K) (X : K.In h) (G : h.Ns mainGlobals mg) (M : ModG mg base ⟨false, false⟩) (E : exB K = true) : Good P w K mg base 2 (Str.ofString "rank_in") 2 sp_rank_in := by
  obtain ⟨fd, F⟩ := c.def_ 1 (d := mkD (Str.ofString "rank_in") (Str.ofString "rank_in") 2) rfl
  exact def_ok (k := 1) (ps := [(Str.ofString "form"), (Str.ofString "value")]) tb_rank_in b_rank_in M (.cons ((good_whole_power c X G M E).up (by decide)) AllGood.nil) AllGl.nil F sc_rank_in (F.bindsN fun _ _ _ _ _ _ us hl => match us, hl with | [_, _], _ => rfl) (He.glo_ok X G (c.fact 1 (f := .glo (Str.ofString "rank_in")) rfl)) mono_rank_in pure_rank_in ck_rank_in
theorem sc_rank_of : FnScope [(Str.ofString "form"), (Str.ofString "value")] [(Str.ofString "form"), (Str.ofString "value")] (defScope (top 5)) := ⟨rfl, rfl, rfl, by decide +kernel, rfl, by decide +kernel, by decide +kernel⟩
theorem ck_rank_of : (ckS b_rank_of ⟨[(Str.ofString "form"), (Str.ofString "value")], defScope (top 5), fun _ => true, tb_rank_of.fn.map fun q => (q.1, q.2.1), tb_rank_of.gl.map (·.1), ⟨false, false⟩⟩).ss (defBody (top 5)) = true := by decide +kernel
theorem good_rank_of (c : He.SaysD faL fnL K) (X : K.In h) (G : h.Ns mainGlobals mg) (M : ModG mg base ⟨false, false⟩) (E : exB K = true) : Good P w K mg base 3 (Str.ofString "rank_of") 2 sp_rank_of := by
  obtain ⟨fd, F⟩ := c.def_ 2 (d := mkD (Str.ofString "rank_of") (Str.ofString "rank_of") 5) rfl
  exact def_ok (k := 2) (ps := [(Str.ofString "form"), (Str.ofString "value")]) tb_rank_of b_rank_of M (.cons ((good_rank_in c X G M E).up (by decide)) AllGood.nil) AllGl.nil F sc_rank_of (F.bindsN fun _ _ _ _ _ _ us hl => match us, hl with | [_, _], _ => rfl) (He.glo_ok X G (c.fact 2 (f := .glo (Str.ofString "rank_of")) rfl)) mono_rank_of pure_rank_of ck_rank_of
theorem sc_value_at : FnScope [(Str.ofString "form"), (Str.ofString "rank"), (Str.ofString "first"), (Str.ofString "steps"), (Str.ofString "base"), (Str.ofString "digits"), (Str.ofString "low"), (Str.ofString "high"), (Str.ofString "wide"), (Str.ofString "many"), (Str.ofString "s")] [(Str.ofString "form"), (Str.ofString "rank")] (defScope (top 6)) := ⟨rfl, rfl, rfl, by decide +kernel, rfl, by decide +kernel, by decide +kernel⟩
theorem ck_value_at : (ckS b_value_at ⟨[(Str.ofString "form"), (Str.ofString "rank"), (Str.ofString "first"), (Str.ofString "steps"), (Str.ofString "base"), (Str.ofString "digits"), (Str.ofString "low"), (Str.ofString "high"), (Str.ofString "wide"), (Str.ofString "many"), (Str.ofString "s")], defScope (top 6), fun _ => true, tb_value_at.fn.map fun q => (q.1, q.2.1), tb_value_at.gl.map (·.1), ⟨false, false⟩⟩).ss (defBody (top 6)) = true := by decide +kernel
theorem good_value_at (c : He.SaysD faL fnL K) (X : K.In h) (G : h.Ns mainGlobals mg) (M : ModG mg base ⟨false, false⟩) (E : exB K = true) : Good P w K mg base 3 (Str.ofString "value_at") 2 sp_value_at := by
  obtain ⟨fd, F⟩ := c.def_ 3 (d := mkD (Str.ofString "value_at") (Str.ofString "value_at") 6) rfl
  exact def_ok (k := 2) (ps := [(Str.ofString "form"), (Str.ofString "rank")]) tb_value_at b_value_at M (.cons ((good_whole_power c X G M E).up (by decide)) (.cons ((good_rank_in c X G M E).up (by decide)) AllGood.nil)) AllGl.nil F sc_value_at (F.bindsN fun _ _ _ _ _ _ us hl => match us, hl with | [_, _], _ => rfl) (He.glo_ok X G (c.fact 3 (f := .glo (Str.ofString "value_at")) rfl)) mono_value_at pure_value_at ck_value_at
theorem sc_ranks_apart : FnScope [(Str.ofString "form"), (Str.ofString "one")] [(Str.ofString "form"), (Str.ofString "one")] (defScope (top 8)) := ⟨rfl, rfl, rfl, by decide +kernel, rfl, by decide +kernel, by decide +kernel⟩
theorem ck_ranks_apart : (ckS b_ranks_apart ⟨[(Str.ofString "form"), (Str.ofString "one")], defScope (top 8), fun _ => true, tb_ranks_apart.fn.map fun q => (q.1, q.2.1), tb_ranks_apart.gl.map (·.1), ⟨false, false⟩⟩).ss (defBody (top 8)) = true := by decide +kernel
theorem good_ranks_apart (c : He.SaysD faL fnL K) (X : K.In h) (G : h.Ns mainGlobals mg) (M : ModG mg base ⟨false, false⟩) (E : exB K = true) : Good P w K mg base 4 (Str.ofString "ranks_apart") 2 sp_ranks_apart := by
  obtain ⟨fd, F⟩ := c.def_ 4 (d := mkD (Str.ofString "ranks_apart") (Str.ofString "ranks_apart") 8) rfl
  exact def_ok (k := 3) (ps := [(Str.ofString "form"), (Str.ofString "one")]) tb_ranks_apart b_ranks_apart M (.cons ((good_rank_of c X G M E).up (by decide)) AllGood.nil) (.cons (conB_ok X G (band E).1) AllGl.nil) F sc_ranks_apart (F.bindsN fun _ _ _ _ _ _ us hl => match us, hl with | [_, _], _ => rfl) (He.glo_ok X G (c.fact 4 (f := .glo (Str.ofString "ranks_apart")) rfl)) mono_ranks_apart pure_ranks_apart ck_ranks_apart
theorem sc_middle_of : FnScope [(Str.ofString "form"), (Str.ofString "one")] [(Str.ofString "form"), (Str.ofString "one")] (defScope (top 9)) := ⟨rfl, rfl, rfl, by decide +kernel, rfl, by decide +kernel, by decide +kernel⟩
theorem ck_middle_of : (ckS b_middle_of ⟨[(Str.ofString "form"), (Str.ofString "one")], defScope (top 9), fun _ => true, tb_middle_of.fn.map fun q => (q.1, q.2.1), tb_middle_of.gl.map (·.1), ⟨false, false⟩⟩).ss (defBody (top 9)) = true := by decide +kernel
theorem good_middle_of (c : He.SaysD faL fnL K) (X : K.In h) (G : h.Ns mainGlobals mg) (M : ModG mg base ⟨false, false⟩) (E : exB K = true) : Good P w K mg base 5 (Str.ofString "middle_of") 2 sp_middle_of := by
  obtain ⟨fd, F⟩ := c.def_ 5 (d := mkD (Str.ofString "middle_of") (Str.ofString "middle_of") 9) rfl
  exact def_ok (k := 4) (ps := [(Str.ofString "form"), (Str.ofString "one")]) tb_middle_of b_middle_of M (.cons ((good_ranks_apart c X G M E).up (by decide)) (.cons ((good_value_at c X G M E).up (by decide)) (.cons ((good_rank_of c X G M E).up (by decide)) AllGood.nil))) AllGl.nil F sc_middle_of (F.bindsN fun _ _ _ _ _ _ us hl => match us, hl with | [_, _], _ => rfl) (He.glo_ok X G (c.fact 5 (f := .glo (Str.ofString "middle_of")) rfl)) mono_middle_of pure_middle_of ck_middle_of
theorem sc_widest : FnScope [(Str.ofString "form"), (Str.ofString "box"), (Str.ofString "found"), (Str.ofString "most"), (Str.ofString "index"), (Str.ofString "one")] [(Str.ofString "form"), (Str.ofString "box")] (defScope (top 10)) := ⟨rfl, rfl, rfl, by decide +kernel, rfl, by decide +kernel, by decide +kernel⟩
theorem ck_widest : (ckS b_widest ⟨[(Str.ofString "form"), (Str.ofString "box"), (Str.ofString "found"), (Str.ofString "most"), (Str.ofString "index"), (Str.ofString "one")], defScope (top 10), fun _ => true, tb_widest.fn.map fun q => (q.1, q.2.1), tb_widest.gl.map (·.1), ⟨false, false⟩⟩).ss (defBody (top 10)) = true := by decide +kernel
theorem good_widest (c : He.SaysD faL fnL K) (X : K.In h) (G : h.Ns mainGlobals mg) (M : ModG mg base ⟨false, false⟩) (E : exB K = true) : Good P w K mg base 5 (Str.ofString "widest") 2 sp_widest := by
  obtain ⟨fd, F⟩ := c.def_ 6 (d := mkD (Str.ofString "widest") (Str.ofString "widest") 10) rfl
  exact def_ok (k := 4) (ps := [(Str.ofString "form"), (Str.ofString "box")]) tb_widest b_widest M (.cons ((good_ranks_apart c X G M E).up (by decide)) AllGood.nil) AllGl.nil F sc_widest (F.bindsN fun _ _ _ _ _ _ us hl => match us, hl with | [_, _], _ => rfl) (He.glo_ok X G (c.fact 6 (f := .glo (Str.ofString "widest")) rfl)) mono_widest pure_widest ck_widest
theorem sc_parted_box : FnScope [(Str.ofString "form"), (Str.ofString "box"), (Str.ofString "index"), (Str.ofString "middle"), (Str.ofString "word"), (Str.ofString "low"), (Str.ofString "high"), (Str.ofString "first"), (Str.ofString "second")] [(Str.ofString "form"), (Str.ofString "box"), (Str.ofString "index")] (defScope (top 11)) := ⟨rfl, rfl, rfl, by decide +kernel, rfl, by decide +kernel, by decide +kernel⟩
theorem ck_parted_box : (ckS b_parted_box ⟨[(Str.ofString "form"), (Str.ofString "box"), (Str.ofString "index"), (Str.ofString "middle"), (Str.ofString "word"), (Str.ofString "low"), (Str.ofString "high"), (Str.ofString "first"), (Str.ofString "second")], defScope (top 11), fun _ => true, tb_parted_box.fn.map fun q => (q.1, q.2.1), tb_parted_box.gl.map (·.1), ⟨false, false⟩⟩).ss (defBody (top 11)) = true := by decide +kernel
theorem good_parted_box (c : He.SaysD faL fnL K) (X : K.In h) (G : h.Ns mainGlobals mg) (M : ModG mg base ⟨false, false⟩) (E : exB K = true) : Good P w K mg base 6 (Str.ofString "parted_box") 3 sp_parted_box := by
  obtain ⟨fd, F⟩ := c.def_ 7 (d := mkD (Str.ofString "parted_box") (Str.ofString "parted_box") 11) rfl
  exact def_ok (k := 5) (ps := [(Str.ofString "form"), (Str.ofString "box"), (Str.ofString "index")]) tb_parted_box b_parted_box M (.cons ((good_middle_of c X G M E).up (by decide)) AllGood.nil) AllGl.nil F sc_parted_box (F.bindsN fun _ _ _ _ _ _ us hl => match us, hl with | [_, _, _], _ => rfl) (He.glo_ok X G (c.fact 7 (f := .glo (Str.ofString "parted_box")) rfl)) mono_parted_box pure_parted_box ck_parted_box
theorem sc_law_bag : FnScope [(Str.ofString "_law_script"), (Str.ofString "_law_cell")] [(Str.ofString "_law_script")] (defScope (top 13)) := ⟨rfl, rfl, rfl, by decide +kernel, rfl, by decide +kernel, by decide +kernel⟩
theorem ck_law_bag : (ckS b_law_bag ⟨[(Str.ofString "_law_script"), (Str.ofString "_law_cell")], defScope (top 13), fun _ => true, tb_law_bag.fn.map fun q => (q.1, q.2.1), tb_law_bag.gl.map (·.1), ⟨false, false⟩⟩).ss (defBody (top 13)) = true := by decide +kernel
theorem good_law_bag (c : He.SaysD faL fnL K) (X : K.In h) (G : h.Ns mainGlobals mg) (M : ModG mg base ⟨false, false⟩) (E : exB K = true) : Good P w K mg base 1 (Str.ofString "_law_bag") 1 sp_law_bag := by
  obtain ⟨fd, F⟩ := c.def_ 8 (d := mkD (Str.ofString "_law_bag") (Str.ofString "_law_bag") 13) rfl
  exact def_ok (k := 0) (ps := [(Str.ofString "_law_script")]) tb_law_bag b_law_bag M AllGood.nil AllGl.nil F sc_law_bag (F.bindsN fun _ _ _ _ _ _ us hl => match us, hl with | [_], _ => rfl) (He.glo_ok X G (c.fact 8 (f := .glo (Str.ofString "_law_bag")) rfl)) mono_law_bag pure_law_bag ck_law_bag
theorem sc_law_take : FnScope [(Str.ofString "_law_bag_here"), (Str.ofString "_law_many"), (Str.ofString "_law_begin"), (Str.ofString "_law_second"), (Str.ofString "_law_cell"), (Str.ofString "_law_stirred"), (Str.ofString "_law_value")] [(Str.ofString "_law_bag_here"), (Str.ofString "_law_many")] (defScope (top 14)) := ⟨rfl, rfl, rfl, by decide +kernel, rfl, by decide +kernel, by decide +kernel⟩
theorem ck_law_take : (ckS b_law_take ⟨[(Str.ofString "_law_bag_here"), (Str.ofString "_law_many"), (Str.ofString "_law_begin"), (Str.ofString "_law_second"), (Str.ofString "_law_cell"), (Str.ofString "_law_stirred"), (Str.ofString "_law_value")], defScope (top 14), fun _ => true, tb_law_take.fn.map fun q => (q.1, q.2.1), tb_law_take.gl.map (·.1), ⟨false, false⟩⟩).ss (defBody (top 14)) = true := by decide +kernel
theorem good_law_take (c : He.SaysD faL fnL K) (X : K.In h) (G : h.Ns mainGlobals mg) (M : ModG mg base ⟨false, false⟩) (E : exB K = true) : Good P w K mg base 1 (Str.ofString "_law_take") 2 sp_law_take := by
  obtain ⟨fd, F⟩ := c.def_ 9 (d := mkD (Str.ofString "_law_take") (Str.ofString "_law_take") 14) rfl
  exact def_ok (k := 0) (ps := [(Str.ofString "_law_bag_here"), (Str.ofString "_law_many")]) tb_law_take b_law_take M AllGood.nil AllGl.nil F sc_law_take (F.bindsN fun _ _ _ _ _ _ us hl => match us, hl with | [_, _], _ => rfl) (He.glo_ok X G (c.fact 9 (f := .glo (Str.ofString "_law_take")) rfl)) mono_law_take pure_law_take ck_law_take
theorem sc_law_some : FnScope [(Str.ofString "_law_bag_here"), (Str.ofString "_law_things")] [(Str.ofString "_law_bag_here"), (Str.ofString "_law_things")] (defScope (top 15)) := ⟨rfl, rfl, rfl, by decide +kernel, rfl, by decide +kernel, by decide +kernel⟩
theorem ck_law_some : (ckS b_law_some ⟨[(Str.ofString "_law_bag_here"), (Str.ofString "_law_things")], defScope (top 15), fun _ => true, tb_law_some.fn.map fun q => (q.1, q.2.1), tb_law_some.gl.map (·.1), ⟨false, false⟩⟩).ss (defBody (top 15)) = true := by decide +kernel
theorem good_law_some (c : He.SaysD faL fnL K) (X : K.In h) (G : h.Ns mainGlobals mg) (M : ModG mg base ⟨false, false⟩) (E : exB K = true) : Good P w K mg base 2 (Str.ofString "_law_some") 2 sp_law_some := by
  obtain ⟨fd, F⟩ := c.def_ 10 (d := mkD (Str.ofString "_law_some") (Str.ofString "_law_some") 15) rfl
  exact def_ok (k := 1) (ps := [(Str.ofString "_law_bag_here"), (Str.ofString "_law_things")]) tb_law_some b_law_some M (.cons ((good_law_take c X G M E).up (by decide)) AllGood.nil) AllGl.nil F sc_law_some (F.bindsN fun _ _ _ _ _ _ us hl => match us, hl with | [_, _], _ => rfl) (He.glo_ok X G (c.fact 10 (f := .glo (Str.ofString "_law_some")) rfl)) mono_law_some pure_law_some ck_law_some
theorem sc_law_alike : FnScope [(Str.ofString "_law_found"), (Str.ofString "_law_due")] [(Str.ofString "_law_found"), (Str.ofString "_law_due")] (defScope (top 16)) := ⟨rfl, rfl, rfl, by decide +kernel, rfl, by decide +kernel, by decide +kernel⟩
theorem ck_law_alike : (ckS b_law_alike ⟨[(Str.ofString "_law_found"), (Str.ofString "_law_due")], defScope (top 16), fun _ => true, tb_law_alike.fn.map fun q => (q.1, q.2.1), tb_law_alike.gl.map (·.1), ⟨false, false⟩⟩).ss (defBody (top 16)) = true := by decide +kernel
theorem good_law_alike (c : He.SaysD faL fnL K) (X : K.In h) (G : h.Ns mainGlobals mg) (M : ModG mg base ⟨false, false⟩) (E : exB K = true) : Good P w K mg base 1 (Str.ofString "_law_alike") 2 sp_law_alike := by
  obtain ⟨fd, F⟩ := c.def_ 11 (d := mkD (Str.ofString "_law_alike") (Str.ofString "_law_alike") 16) rfl
  exact def_ok (k := 0) (ps := [(Str.ofString "_law_found"), (Str.ofString "_law_due")]) tb_law_alike b_law_alike M AllGood.nil AllGl.nil F sc_law_alike (F.bindsN fun _ _ _ _ _ _ us hl => match us, hl with | [_, _], _ => rfl) (He.glo_ok X G (c.fact 11 (f := .glo (Str.ofString "_law_alike")) rfl)) mono_law_alike pure_law_alike ck_law_alike
theorem sc_law_common : FnScope [(Str.ofString "_law_one"), (Str.ofString "_law_other")] [(Str.ofString "_law_one"), (Str.ofString "_law_other")] (defScope (top 17)) := ⟨rfl, rfl, rfl, by decide +kernel, rfl, by decide +kernel, by decide +kernel⟩
theorem ck_law_common : (ckS b_law_common ⟨[(Str.ofString "_law_one"), (Str.ofString "_law_other")], defScope (top 17), fun _ => true, tb_law_common.fn.map fun q => (q.1, q.2.1), tb_law_common.gl.map (·.1), ⟨false, false⟩⟩).ss (defBody (top 17)) = true := by decide +kernel
theorem good_law_common (c : He.SaysD faL fnL K) (X : K.In h) (G : h.Ns mainGlobals mg) (M : ModG mg base ⟨false, false⟩) (E : exB K = true) : Good P w K mg base 1 (Str.ofString "_law_common") 2 sp_law_common := by
  obtain ⟨fd, F⟩ := c.def_ 12 (d := mkD (Str.ofString "_law_common") (Str.ofString "_law_common") 17) rfl
  exact def_ok (k := 0) (ps := [(Str.ofString "_law_one"), (Str.ofString "_law_other")]) tb_law_common b_law_common M AllGood.nil AllGl.nil F sc_law_common (F.bindsN fun _ _ _ _ _ _ us hl => match us, hl with | [_, _], _ => rfl) (He.glo_ok X G (c.fact 12 (f := .glo (Str.ofString "_law_common")) rfl)) mono_law_common pure_law_common ck_law_common
theorem sc_law_to : FnScope [(Str.ofString "_law_base"), (Str.ofString "_law_n"), (Str.ofString "_law_found"), (Str.ofString "_law_factor")] [(Str.ofString "_law_base"), (Str.ofString "_law_n")] (defScope (top 18)) := ⟨rfl, rfl, rfl, by decide +kernel, rfl, by decide +kernel, by decide +kernel⟩
theorem ck_law_to : (ckS b_law_to ⟨[(Str.ofString "_law_base"), (Str.ofString "_law_n"), (Str.ofString "_law_found"), (Str.ofString "_law_factor")], defScope (top 18), fun _ => true, tb_law_to.fn.map fun q => (q.1, q.2.1), tb_law_to.gl.map (·.1), ⟨false, false⟩⟩).ss (defBody (top 18)) = true := by decide +kernel
theorem good_law_to (c : He.SaysD faL fnL K) (X : K.In h) (G : h.Ns mainGlobals mg) (M : ModG mg base ⟨false, false⟩) (E : exB K = true) : Good P w K mg base 1 (Str.ofString "_law_to") 2 sp_law_to := by
  obtain ⟨fd, F⟩ := c.def_ 13 (d := mkD (Str.ofString "_law_to") (Str.ofString "_law_to") 18) rfl
  exact def_ok (k := 0) (ps := [(Str.ofString "_law_base"), (Str.ofString "_law_n")]) tb_law_to b_law_to M AllGood.nil AllGl.nil F sc_law_to (F.bindsN fun _ _ _ _ _ _ us hl => match us, hl with | [_, _], _ => rfl) (He.glo_ok X G (c.fact 13 (f := .glo (Str.ofString "_law_to")) rfl)) mono_law_to pure_law_to ck_law_to
theorem sc_law_over : FnScope [(Str.ofString "_law_n"), (Str.ofString "_law_d"), (Str.ofString "_law_shared")] [(Str.ofString "_law_n"), (Str.ofString "_law_d")] (defScope (top 19)) := ⟨rfl, rfl, rfl, by decide +kernel, rfl, by decide +kernel, by decide +kernel⟩
theorem ck_law_over : (ckS b_law_over ⟨[(Str.ofString "_law_n"), (Str.ofString "_law_d"), (Str.ofString "_law_shared")], defScope (top 19), fun _ => true, tb_law_over.fn.map fun q => (q.1, q.2.1), tb_law_over.gl.map (·.1), ⟨false, false⟩⟩).ss (defBody (top 19)) = true := by decide +kernel
theorem good_law_over (c : He.SaysD faL fnL K) (X : K.In h) (G : h.Ns mainGlobals mg) (M : ModG mg base ⟨false, false⟩) (E : exB K = true) : Good P w K mg base 2 (Str.ofString "_law_over") 2 sp_law_over := by
  obtain ⟨fd, F⟩ := c.def_ 14 (d := mkD (Str.ofString "_law_over") (Str.ofString "_law_over") 19) rfl
  exact def_ok (k := 1) (ps := [(Str.ofString "_law_n"), (Str.ofString "_law_d")]) tb_law_over b_law_over M (.cons ((good_law_common c X G M E).up (by decide)) AllGood.nil) AllGl.nil F sc_law_over (F.bindsN fun _ _ _ _ _ _ us hl => match us, hl with | [_, _], _ => rfl) (He.glo_ok X G (c.fact 14 (f := .glo (Str.ofString "_law_over")) rfl)) mono_law_over pure_law_over ck_law_over
theorem sc_law_multiplied : FnScope [(Str.ofString "_law_x"), (Str.ofString "_law_y")] [(Str.ofString "_law_x"), (Str.ofString "_law_y")] (defScope (top 20)) := ⟨rfl, rfl, rfl, by decide +kernel, rfl, by decide +kernel, by decide +kernel⟩
theorem ck_law_multiplied : (ckS b_law_multiplied ⟨[(Str.ofString "_law_x"), (Str.ofString "_law_y")], defScope (top 20), fun _ => true, tb_law_multiplied.fn.map fun q => (q.1, q.2.1), tb_law_multiplied.gl.map (·.1), ⟨false, false⟩⟩).ss (defBody (top 20)) = true := by decide +kernel
theorem good_law_multiplied (c : He.SaysD faL fnL K) (X : K.In h) (G : h.Ns mainGlobals mg) (M : ModG mg base ⟨false, false⟩) (E : exB K = true) : Good P w K mg base 3 (Str.ofString "_law_multiplied") 2 sp_law_multiplied := by
  obtain ⟨fd, F⟩ := c.def_ 15 (d := mkD (Str.ofString "_law_multiplied") (Str.ofString "_law_multiplied") 20) rfl
  exact def_ok (k := 2) (ps := [(Str.ofString "_law_x"), (Str.ofString "_law_y")]) tb_law_multiplied b_law_multiplied M (.cons ((good_law_over c X G M E).up (by decide)) AllGood.nil) AllGl.nil F sc_law_multiplied (F.bindsN fun _ _ _ _ _ _ us hl => match us, hl with | [_, _], _ => rfl) (He.glo_ok X G (c.fact 15 (f := .glo (Str.ofString "_law_multiplied")) rfl)) mono_law_multiplied pure_law_multiplied ck_law_multiplied
theorem sc_law_is_below : FnScope [(Str.ofString "_law_x"), (Str.ofString "_law_y")] [(Str.ofString "_law_x"), (Str.ofString "_law_y")] (defScope (top 21)) := ⟨rfl, rfl, rfl, by decide +kernel, rfl, by decide +kernel, by decide +kernel⟩
theorem ck_law_is_below : (ckS b_law_is_below ⟨[(Str.ofString "_law_x"), (Str.ofString "_law_y")], defScope (top 21), fun _ => true, tb_law_is_below.fn.map fun q => (q.1, q.2.1), tb_law_is_below.gl.map (·.1), ⟨false, false⟩⟩).ss (defBody (top 21)) = true := by decide +kernel
theorem good_law_is_below (c : He.SaysD faL fnL K) (X : K.In h) (G : h.Ns mainGlobals mg) (M : ModG mg base ⟨false, false⟩) (E : exB K = true) : Good P w K mg base 1 (Str.ofString "_law_is_below") 2 sp_law_is_below := by
  obtain ⟨fd, F⟩ := c.def_ 16 (d := mkD (Str.ofString "_law_is_below") (Str.ofString "_law_is_below") 21) rfl
  exact def_ok (k := 0) (ps := [(Str.ofString "_law_x"), (Str.ofString "_law_y")]) tb_law_is_below b_law_is_below M AllGood.nil AllGl.nil F sc_law_is_below (F.bindsN fun _ _ _ _ _ _ us hl => match us, hl with | [_, _], _ => rfl) (He.glo_ok X G (c.fact 16 (f := .glo (Str.ofString "_law_is_below")) rfl)) mono_law_is_below pure_law_is_below ck_law_is_below
theorem sc_law_power : FnScope [(Str.ofString "_law_base"), (Str.ofString "_law_e")] [(Str.ofString "_law_base"), (Str.ofString "_law_e")] (defScope (top 22)) := ⟨rfl, rfl, rfl, by decide +kernel, rfl, by decide +kernel, by decide +kernel⟩
theorem ck_law_power : (ckS b_law_power ⟨[(Str.ofString "_law_base"), (Str.ofString "_law_e")], defScope (top 22), fun _ => true, tb_law_power.fn.map fun q => (q.1, q.2.1), tb_law_power.gl.map (·.1), ⟨false, false⟩⟩).ss (defBody (top 22)) = true := by decide +kernel
theorem good_law_power (c : He.SaysD faL fnL K) (X : K.In h) (G : h.Ns mainGlobals mg) (M : ModG mg base ⟨false, false⟩) (E : exB K = true) : Good P w K mg base 2 (Str.ofString "_law_power") 2 sp_law_power := by
  obtain ⟨fd, F⟩ := c.def_ 17 (d := mkD (Str.ofString "_law_power") (Str.ofString "_law_power") 22) rfl
  exact def_ok (k := 1) (ps := [(Str.ofString "_law_base"), (Str.ofString "_law_e")]) tb_law_power b_law_power M (.cons ((good_law_to c X G M E).up (by decide)) AllGood.nil) AllGl.nil F sc_law_power (F.bindsN fun _ _ _ _ _ _ us hl => match us, hl with | [_, _], _ => rfl) (He.glo_ok X G (c.fact 17 (f := .glo (Str.ofString "_law_power")) rfl)) mono_law_power pure_law_power ck_law_power
theorem sc_law_worth : FnScope [(Str.ofString "_law_form"), (Str.ofString "_law_number_here"), (Str.ofString "_law_size")] [(Str.ofString "_law_form"), (Str.ofString "_law_number_here")] (defScope (top 23)) := ⟨rfl, rfl, rfl, by decide +kernel, rfl, by decide +kernel, by decide +kernel⟩
theorem ck_law_worth : (ckS b_law_worth ⟨[(Str.ofString "_law_form"), (Str.ofString "_law_number_here"), (Str.ofString "_law_size")], defScope (top 23), fun _ => true, tb_law_worth.fn.map fun q => (q.1, q.2.1), tb_law_worth.gl.map (·.1), ⟨false, false⟩⟩).ss (defBody (top 23)) = true := by decide +kernel
theorem good_law_worth (c : He.SaysD faL fnL K) (X : K.In h) (G : h.Ns mainGlobals mg) (M : ModG mg base ⟨false, false⟩) (E : exB K = true) : Good P w K mg base 4 (Str.ofString "_law_worth") 2 sp_law_worth := by
  obtain ⟨fd, F⟩ := c.def_ 18 (d := mkD (Str.ofString "_law_worth") (Str.ofString "_law_worth") 23) rfl
  exact def_ok (k := 3) (ps := [(Str.ofString "_law_form"), (Str.ofString "_law_number_here")]) tb_law_worth b_law_worth M (.cons ((good_law_multiplied c X G M E).up (by decide)) (.cons ((good_law_power c X G M E).up (by decide)) AllGood.nil)) AllGl.nil F sc_law_worth (F.bindsN fun _ _ _ _ _ _ us hl => match us, hl with | [_, _], _ => rfl) (He.glo_ok X G (c.fact 18 (f := .glo (Str.ofString "_law_worth")) rfl)) mono_law_worth pure_law_worth ck_law_worth
theorem sc_law_formats : FnScope [(Str.ofString "_law_bag_here"), (Str.ofString "_law_small")] [(Str.ofString "_law_bag_here")] (defScope (top 24)) := ⟨rfl, rfl, rfl, by decide +kernel, rfl, by decide +kernel, by decide +kernel⟩
theorem ck_law_formats : (ckS b_law_formats ⟨[(Str.ofString "_law_bag_here"), (Str.ofString "_law_small")], defScope (top 24), fun _ => true, tb_law_formats.fn.map fun q => (q.1, q.2.1), tb_law_formats.gl.map (·.1), ⟨false, false⟩⟩).ss (defBody (top 24)) = true := by decide +kernel
theorem good_law_formats (c : He.SaysD faL fnL K) (X : K.In h) (G : h.Ns mainGlobals mg) (M : ModG mg base ⟨false, false⟩) (E : exB K = true) : Good P w K mg base 3 (Str.ofString "_law_formats") 1 sp_law_formats := by
  obtain ⟨fd, F⟩ := c.def_ 19 (d := mkD (Str.ofString "_law_formats") (Str.ofString "_law_formats") 24) rfl
  exact def_ok (k := 2) (ps := [(Str.ofString "_law_bag_here")]) tb_law_formats b_law_formats M (.cons ((good_law_some c X G M E).up (by decide)) AllGood.nil) AllGl.nil F sc_law_formats (F.bindsN fun _ _ _ _ _ _ us hl => match us, hl with | [_], _ => rfl) (He.glo_ok X G (c.fact 19 (f := .glo (Str.ofString "_law_formats")) rfl)) mono_law_formats pure_law_formats ck_law_formats
theorem sc_law_wide_format : FnScope [(Str.ofString "_law_bag_here"), (Str.ofString "_law_some_here"), (Str.ofString "_law_far")] [(Str.ofString "_law_bag_here")] (defScope (top 25)) := ⟨rfl, rfl, rfl, by decide +kernel, rfl, by decide +kernel, by decide +kernel⟩
theorem ck_law_wide_format : (ckS b_law_wide_format ⟨[(Str.ofString "_law_bag_here"), (Str.ofString "_law_some_here"), (Str.ofString "_law_far")], defScope (top 25), fun _ => true, tb_law_wide_format.fn.map fun q => (q.1, q.2.1), tb_law_wide_format.gl.map (·.1), ⟨false, false⟩⟩).ss (defBody (top 25)) = true := by decide +kernel
theorem good_law_wide_format (c : He.SaysD faL fnL K) (X : K.In h) (G : h.Ns mainGlobals mg) (M : ModG mg base ⟨false, false⟩) (E : exB K = true) : Good P w K mg base 3 (Str.ofString "_law_wide_format") 1 sp_law_wide_format := by
  obtain ⟨fd, F⟩ := c.def_ 20 (d := mkD (Str.ofString "_law_wide_format") (Str.ofString "_law_wide_format") 25) rfl
  exact def_ok (k := 2) (ps := [(Str.ofString "_law_bag_here")]) tb_law_wide_format b_law_wide_format M (.cons ((good_law_some c X G M E).up (by decide)) (.cons ((good_law_take c X G M E).up (by decide)) AllGood.nil)) AllGl.nil F sc_law_wide_format (F.bindsN fun _ _ _ _ _ _ us hl => match us, hl with | [_], _ => rfl) (He.glo_ok X G (c.fact 20 (f := .glo (Str.ofString "_law_wide_format")) rfl)) mono_law_wide_format pure_law_wide_format ck_law_wide_format
theorem sc_law_any_format : FnScope [(Str.ofString "_law_bag_here")] [(Str.ofString "_law_bag_here")] (defScope (top 26)) := ⟨rfl, rfl, rfl, by decide +kernel, rfl, by decide +kernel, by decide +kernel⟩
theorem ck_law_any_format : (ckS b_law_any_format ⟨[(Str.ofString "_law_bag_here")], defScope (top 26), fun _ => true, tb_law_any_format.fn.map fun q => (q.1, q.2.1), tb_law_any_format.gl.map (·.1), ⟨false, false⟩⟩).ss (defBody (top 26)) = true := by decide +kernel
theorem good_law_any_format (c : He.SaysD faL fnL K) (X : K.In h) (G : h.Ns mainGlobals mg) (M : ModG mg base ⟨false, false⟩) (E : exB K = true) : Good P w K mg base 4 (Str.ofString "_law_any_format") 1 sp_law_any_format := by
  obtain ⟨fd, F⟩ := c.def_ 21 (d := mkD (Str.ofString "_law_any_format") (Str.ofString "_law_any_format") 26) rfl
  exact def_ok (k := 3) (ps := [(Str.ofString "_law_bag_here")]) tb_law_any_format b_law_any_format M (.cons ((good_law_take c X G M E).up (by decide)) (.cons ((good_law_formats c X G M E).up (by decide)) (.cons ((good_law_wide_format c X G M E).up (by decide)) AllGood.nil))) AllGl.nil F sc_law_any_format (F.bindsN fun _ _ _ _ _ _ us hl => match us, hl with | [_], _ => rfl) (He.glo_ok X G (c.fact 21 (f := .glo (Str.ofString "_law_any_format")) rfl)) mono_law_any_format pure_law_any_format ck_law_any_format
theorem sc_law_edges : FnScope [(Str.ofString "_law_form"), (Str.ofString "_law_found"), (Str.ofString "_law_base"), (Str.ofString "_law_digits"), (Str.ofString "_law_low"), (Str.ofString "_law_high"), (Str.ofString "_law_lead"), (Str.ofString "_law_most")] [(Str.ofString "_law_form")] (defScope (top 27)) := ⟨rfl, rfl, rfl, by decide +kernel, rfl, by decide +kernel, by decide +kernel⟩
theorem ck_law_edges : (ckS b_law_edges ⟨[(Str.ofString "_law_form"), (Str.ofString "_law_found"), (Str.ofString "_law_base"), (Str.ofString "_law_digits"), (Str.ofString "_law_low"), (Str.ofString "_law_high"), (Str.ofString "_law_lead"), (Str.ofString "_law_most")], defScope (top 27), fun _ => true, tb_law_edges.fn.map fun q => (q.1, q.2.1), tb_law_edges.gl.map (·.1), ⟨false, false⟩⟩).ss (defBody (top 27)) = true := by decide +kernel
theorem good_law_edges (c : He.SaysD faL fnL K) (X : K.In h) (G : h.Ns mainGlobals mg) (M : ModG mg base ⟨false, false⟩) (E : exB K = true) : Good P w K mg base 2 (Str.ofString "_law_edges") 1 sp_law_edges := by
  obtain ⟨fd, F⟩ := c.def_ 22 (d := mkD (Str.ofString "_law_edges") (Str.ofString "_law_edges") 27) rfl
  exact def_ok (k := 1) (ps := [(Str.ofString "_law_form")]) tb_law_edges b_law_edges M (.cons ((good_law_to c X G M E).up (by decide)) AllGood.nil) AllGl.nil F sc_law_edges (F.bindsN fun _ _ _ _ _ _ us hl => match us, hl with | [_], _ => rfl) (He.glo_ok X G (c.fact 22 (f := .glo (Str.ofString "_law_edges")) rfl)) mono_law_edges pure_law_edges ck_law_edges
theorem sc_law_number : FnScope [(Str.ofString "_law_bag_here"), (Str.ofString "_law_form"), (Str.ofString "_law_base"), (Str.ofString "_law_digits"), (Str.ofString "_law_low"), (Str.ofString "_law_high"), (Str.ofString "_law_way"), (Str.ofString "_law_s"), (Str.ofString "_law_number_here"), (Str.ofString "_law_e"), (Str.ofString "_law_lead"), (Str.ofString "_law_c")] [(Str.ofString "_law_bag_here"), (Str.ofString "_law_form")] (defScope (top 28)) := ⟨rfl, rfl, rfl, by decide +kernel, rfl, by decide +kernel, by decide +kernel⟩
theorem ck_law_number : (ckS b_law_number ⟨[(Str.ofString "_law_bag_here"), (Str.ofString "_law_form"), (Str.ofString "_law_base"), (Str.ofString "_law_digits"), (Str.ofString "_law_low"), (Str.ofString "_law_high"), (Str.ofString "_law_way"), (Str.ofString "_law_s"), (Str.ofString "_law_number_here"), (Str.ofString "_law_e"), (Str.ofString "_law_lead"), (Str.ofString "_law_c")], defScope (top 28), fun _ => true, tb_law_number.fn.map fun q => (q.1, q.2.1), tb_law_number.gl.map (·.1), ⟨false, false⟩⟩).ss (defBody (top 28)) = true := by decide +kernel
theorem good_law_number (c : He.SaysD faL fnL K) (X : K.In h) (G : h.Ns mainGlobals mg) (M : ModG mg base ⟨false, false⟩) (E : exB K = true) : Good P w K mg base 3 (Str.ofString "_law_number") 2 sp_law_number := by
  obtain ⟨fd, F⟩ := c.def_ 23 (d := mkD (Str.ofString "_law_number") (Str.ofString "_law_number") 28) rfl
  exact def_ok (k := 2) (ps := [(Str.ofString "_law_bag_here"), (Str.ofString "_law_form")]) tb_law_number b_law_number M (.cons ((good_law_take c X G M E).up (by decide)) (.cons ((good_law_some c X G M E).up (by decide)) (.cons ((good_law_edges c X G M E).up (by decide)) (.cons ((good_law_to c X G M E).up (by decide)) AllGood.nil)))) AllGl.nil F sc_law_number (F.bindsN fun _ _ _ _ _ _ us hl => match us, hl with | [_, _], _ => rfl) (He.glo_ok X G (c.fact 23 (f := .glo (Str.ofString "_law_number")) rfl)) mono_law_number pure_law_number ck_law_number
theorem sc_law_near_number : FnScope [(Str.ofString "_law_bag_here"), (Str.ofString "_law_form"), (Str.ofString "_law_number_here"), (Str.ofString "_law_e"), (Str.ofString "_law_lead"), (Str.ofString "_law_base"), (Str.ofString "_law_digits"), (Str.ofString "_law_low"), (Str.ofString "_law_high")] [(Str.ofString "_law_bag_here"), (Str.ofString "_law_form"), (Str.ofString "_law_number_here")] (defScope (top 29)) := ⟨rfl, rfl, rfl, by decide +kernel, rfl, by decide +kernel, by decide +kernel⟩
theorem ck_law_near_number : (ckS b_law_near_number ⟨[(Str.ofString "_law_bag_here"), (Str.ofString "_law_form"), (Str.ofString "_law_number_here"), (Str.ofString "_law_e"), (Str.ofString "_law_lead"), (Str.ofString "_law_base"), (Str.ofString "_law_digits"), (Str.ofString "_law_low"), (Str.ofString "_law_high")], defScope (top 29), fun _ => true, tb_law_near_number.fn.map fun q => (q.1, q.2.1), tb_law_near_number.gl.map (·.1), ⟨false, false⟩⟩).ss (defBody (top 29)) = true := by decide +kernel
theorem good_law_near_number (c : He.SaysD faL fnL K) (X : K.In h) (G : h.Ns mainGlobals mg) (M : ModG mg base ⟨false, false⟩) (E : exB K = true) : Good P w K mg base 3 (Str.ofString "_law_near_number") 3 sp_law_near_number := by
  obtain ⟨fd, F⟩ := c.def_ 24 (d := mkD (Str.ofString "_law_near_number") (Str.ofString "_law_near_number") 29) rfl
  exact def_ok (k := 2) (ps := [(Str.ofString "_law_bag_here"), (Str.ofString "_law_form"), (Str.ofString "_law_number_here")]) tb_law_near_number b_law_near_number M (.cons ((good_law_some c X G M E).up (by decide)) (.cons ((good_law_to c X G M E).up (by decide)) (.cons ((good_law_take c X G M E).up (by decide)) AllGood.nil))) AllGl.nil F sc_law_near_number (F.bindsN fun _ _ _ _ _ _ us hl => match us, hl with | [_, _, _], _ => rfl) (He.glo_ok X G (c.fact 24 (f := .glo (Str.ofString "_law_near_number")) rfl)) mono_law_near_number pure_law_near_number ck_law_near_number
theorem sc_law_placed : FnScope [(Str.ofString "_law_value")] [(Str.ofString "_law_value")] (defScope (top 30)) := ⟨rfl, rfl, rfl, by decide +kernel, rfl, by decide +kernel, by decide +kernel⟩
theorem ck_law_placed : (ckS b_law_placed ⟨[(Str.ofString "_law_value")], defScope (top 30), fun _ => true, tb_law_placed.fn.map fun q => (q.1, q.2.1), tb_law_placed.gl.map (·.1), ⟨false, false⟩⟩).ss (defBody (top 30)) = true := by decide +kernel
theorem good_law_placed (c : He.SaysD faL fnL K) (X : K.In h) (G : h.Ns mainGlobals mg) (M : ModG mg base ⟨false, false⟩) (E : exB K = true) : Good P w K mg base 1 (Str.ofString "_law_placed") 1 sp_law_placed := by
  obtain ⟨fd, F⟩ := c.def_ 25 (d := mkD (Str.ofString "_law_placed") (Str.ofString "_law_placed") 30) rfl
  exact def_ok (k := 0) (ps := [(Str.ofString "_law_value")]) tb_law_placed b_law_placed M AllGood.nil AllGl.nil F sc_law_placed (F.bindsN fun _ _ _ _ _ _ us hl => match us, hl with | [_], _ => rfl) (He.glo_ok X G (c.fact 25 (f := .glo (Str.ofString "_law_placed")) rfl)) mono_law_placed pure_law_placed ck_law_placed
theorem sc_law_is_not_above : FnScope [(Str.ofString "_law_form"), (Str.ofString "_law_one"), (Str.ofString "_law_other")] [(Str.ofString "_law_form"), (Str.ofString "_law_one"), (Str.ofString "_law_other")] (defScope (top 31)) := ⟨rfl, rfl, rfl, by decide +kernel, rfl, by decide +kernel, by decide +kernel⟩
theorem ck_law_is_not_above : (ckS b_law_is_not_above ⟨[(Str.ofString "_law_form"), (Str.ofString "_law_one"), (Str.ofString "_law_other")], defScope (top 31), fun _ => true, tb_law_is_not_above.fn.map fun q => (q.1, q.2.1), tb_law_is_not_above.gl.map (·.1), ⟨false, false⟩⟩).ss (defBody (top 31)) = true := by decide +kernel
theorem good_law_is_not_above (c : He.SaysD faL fnL K) (X : K.In h) (G : h.Ns mainGlobals mg) (M : ModG mg base ⟨false, false⟩) (E : exB K = true) : Good P w K mg base 5 (Str.ofString "_law_is_not_above") 3 sp_law_is_not_above := by
  obtain ⟨fd, F⟩ := c.def_ 26 (d := mkD (Str.ofString "_law_is_not_above") (Str.ofString "_law_is_not_above") 31) rfl
  exact def_ok (k := 4) (ps := [(Str.ofString "_law_form"), (Str.ofString "_law_one"), (Str.ofString "_law_other")]) tb_law_is_not_above b_law_is_not_above M (.cons ((good_law_is_below c X G M E).up (by decide)) (.cons ((good_law_worth c X G M E).up (by decide)) AllGood.nil)) AllGl.nil F sc_law_is_not_above (F.bindsN fun _ _ _ _ _ _ us hl => match us, hl with | [_, _, _], _ => rfl) (He.glo_ok X G (c.fact 26 (f := .glo (Str.ofString "_law_is_not_above")) rfl)) mono_law_is_not_above pure_law_is_not_above ck_law_is_not_above
theorem sc_law_span : FnScope [(Str.ofString "_law_bag_here"), (Str.ofString "_law_form"), (Str.ofString "_law_other"), (Str.ofString "_law_way"), (Str.ofString "_law_one")] [(Str.ofString "_law_bag_here"), (Str.ofString "_law_form")] (defScope (top 32)) := ⟨rfl, rfl, rfl, by decide +kernel, rfl, by decide +kernel, by decide +kernel⟩
theorem ck_law_span : (ckS b_law_span ⟨[(Str.ofString "_law_bag_here"), (Str.ofString "_law_form"), (Str.ofString "_law_other"), (Str.ofString "_law_way"), (Str.ofString "_law_one")], defScope (top 32), fun _ => true, tb_law_span.fn.map fun q => (q.1, q.2.1), tb_law_span.gl.map (·.1), ⟨false, false⟩⟩).ss (defBody (top 32)) = true := by decide +kernel
theorem good_law_span (c : He.SaysD faL fnL K) (X : K.In h) (G : h.Ns mainGlobals mg) (M : ModG mg base ⟨false, false⟩) (E : exB K = true) : Good P w K mg base 6 (Str.ofString "_law_span") 2 sp_law_span := by
  obtain ⟨fd, F⟩ := c.def_ 27 (d := mkD (Str.ofString "_law_span") (Str.ofString "_law_span") 32) rfl
  exact def_ok (k := 5) (ps := [(Str.ofString "_law_bag_here"), (Str.ofString "_law_form")]) tb_law_span b_law_span M (.cons ((good_law_take c X G M E).up (by decide)) (.cons ((good_law_placed c X G M E).up (by decide)) (.cons ((good_law_number c X G M E).up (by decide)) (.cons ((good_law_some c X G M E).up (by decide)) (.cons ((good_law_near_number c X G M E).up (by decide)) (.cons ((good_law_is_not_above c X G M E).up (by decide)) AllGood.nil)))))) AllGl.nil F sc_law_span (F.bindsN fun _ _ _ _ _ _ us hl => match us, hl with | [_, _], _ => rfl) (He.glo_ok X G (c.fact 27 (f := .glo (Str.ofString "_law_span")) rfl)) mono_law_span pure_law_span ck_law_span
theorem sc_law_box : FnScope [(Str.ofString "_law_bag_here"), (Str.ofString "_law_form"), (Str.ofString "_law_many"), (Str.ofString "_law_turn")] [(Str.ofString "_law_bag_here"), (Str.ofString "_law_form"), (Str.ofString "_law_many")] (defScope (top 33)) := ⟨rfl, rfl, rfl, by decide +kernel, rfl, by decide +kernel, by decide +kernel⟩
theorem ck_law_box : (ckS b_law_box ⟨[(Str.ofString "_law_bag_here"), (Str.ofString "_law_form"), (Str.ofString "_law_many"), (Str.ofString "_law_turn")], defScope (top 33), fun _ => true, tb_law_box.fn.map fun q => (q.1, q.2.1), tb_law_box.gl.map (·.1), ⟨false, false⟩⟩).ss (defBody (top 33)) = true := by decide +kernel
theorem good_law_box (c : He.SaysD faL fnL K) (X : K.In h) (G : h.Ns mainGlobals mg) (M : ModG mg base ⟨false, false⟩) (E : exB K = true) : Good P w K mg base 7 (Str.ofString "_law_box") 3 sp_law_box := by
  obtain ⟨fd, F⟩ := c.def_ 28 (d := mkD (Str.ofString "_law_box") (Str.ofString "_law_box") 33) rfl
  exact def_ok (k := 6) (ps := [(Str.ofString "_law_bag_here"), (Str.ofString "_law_form"), (Str.ofString "_law_many")]) tb_law_box b_law_box M (.cons ((good_law_span c X G M E).up (by decide)) AllGood.nil) AllGl.nil F sc_law_box (F.bindsN fun _ _ _ _ _ _ us hl => match us, hl with | [_, _, _], _ => rfl) (He.glo_ok X G (c.fact 28 (f := .glo (Str.ofString "_law_box")) rfl)) mono_law_box pure_law_box ck_law_box
theorem sc_law_rank : FnScope [(Str.ofString "_law_form"), (Str.ofString "_law_value"), (Str.ofString "_law_base"), (Str.ofString "_law_digits"), (Str.ofString "_law_low"), (Str.ofString "_law_high"), (Str.ofString "_law_rank_here")] [(Str.ofString "_law_form"), (Str.ofString "_law_value")] (defScope (top 34)) := ⟨rfl, rfl, rfl, by decide +kernel, rfl, by decide +kernel, by decide +kernel⟩
theorem ck_law_rank : (ckS b_law_rank ⟨[(Str.ofString "_law_form"), (Str.ofString "_law_value"), (Str.ofString "_law_base"), (Str.ofString "_law_digits"), (Str.ofString "_law_low"), (Str.ofString "_law_high"), (Str.ofString "_law_rank_here")], defScope (top 34), fun _ => true, tb_law_rank.fn.map fun q => (q.1, q.2.1), tb_law_rank.gl.map (·.1), ⟨false, false⟩⟩).ss (defBody (top 34)) = true := by decide +kernel
theorem good_law_rank (c : He.SaysD faL fnL K) (X : K.In h) (G : h.Ns mainGlobals mg) (M : ModG mg base ⟨false, false⟩) (E : exB K = true) : Good P w K mg base 2 (Str.ofString "_law_rank") 2 sp_law_rank := by
  obtain ⟨fd, F⟩ := c.def_ 29 (d := mkD (Str.ofString "_law_rank") (Str.ofString "_law_rank") 34) rfl
  exact def_ok (k := 1) (ps := [(Str.ofString "_law_form"), (Str.ofString "_law_value")]) tb_law_rank b_law_rank M (.cons ((good_law_to c X G M E).up (by decide)) AllGood.nil) AllGl.nil F sc_law_rank (F.bindsN fun _ _ _ _ _ _ us hl => match us, hl with | [_, _], _ => rfl) (He.glo_ok X G (c.fact 29 (f := .glo (Str.ofString "_law_rank")) rfl)) mono_law_rank pure_law_rank ck_law_rank
theorem sc_law_ranked : FnScope [(Str.ofString "_law_form"), (Str.ofString "_law_rank_here"), (Str.ofString "_law_many"), (Str.ofString "_law_base"), (Str.ofString "_law_digits"), (Str.ofString "_law_low"), (Str.ofString "_law_high"), (Str.ofString "_law_s"), (Str.ofString "_law_size"), (Str.ofString "_law_left"), (Str.ofString "_law_lead")] [(Str.ofString "_law_form"), (Str.ofString "_law_rank_here")] (defScope (top 35)) := ⟨rfl, rfl, rfl, by decide +kernel, rfl, by decide +kernel, by decide +kernel⟩
theorem ck_law_ranked : (ckS b_law_ranked ⟨[(Str.ofString "_law_form"), (Str.ofString "_law_rank_here"), (Str.ofString "_law_many"), (Str.ofString "_law_base"), (Str.ofString "_law_digits"), (Str.ofString "_law_low"), (Str.ofString "_law_high"), (Str.ofString "_law_s"), (Str.ofString "_law_size"), (Str.ofString "_law_left"), (Str.ofString "_law_lead")], defScope (top 35), fun _ => true, tb_law_ranked.fn.map fun q => (q.1, q.2.1), tb_law_ranked.gl.map (·.1), ⟨false, false⟩⟩).ss (defBody (top 35)) = true := by decide +kernel
theorem good_law_ranked (c : He.SaysD faL fnL K) (X : K.In h) (G : h.Ns mainGlobals mg) (M : ModG mg base ⟨false, false⟩) (E : exB K = true) : Good P w K mg base 3 (Str.ofString "_law_ranked") 2 sp_law_ranked := by
  obtain ⟨fd, F⟩ := c.def_ 30 (d := mkD (Str.ofString "_law_ranked") (Str.ofString "_law_ranked") 35) rfl
  exact def_ok (k := 2) (ps := [(Str.ofString "_law_form"), (Str.ofString "_law_rank_here")]) tb_law_ranked b_law_ranked M (.cons ((good_law_rank c X G M E).up (by decide)) (.cons ((good_law_to c X G M E).up (by decide)) AllGood.nil)) AllGl.nil F sc_law_ranked (F.bindsN fun _ _ _ _ _ _ us hl => match us, hl with | [_, _], _ => rfl) (He.glo_ok X G (c.fact 30 (f := .glo (Str.ofString "_law_ranked")) rfl)) mono_law_ranked pure_law_ranked ck_law_ranked
theorem sc_law_middle : FnScope [(Str.ofString "_law_form"), (Str.ofString "_law_span_here"), (Str.ofString "_law_one"), (Str.ofString "_law_other")] [(Str.ofString "_law_form"), (Str.ofString "_law_span_here")] (defScope (top 36)) := ⟨rfl, rfl, rfl, by decide +kernel, rfl, by decide +kernel, by decide +kernel⟩
theorem ck_law_middle : (ckS b_law_middle ⟨[(Str.ofString "_law_form"), (Str.ofString "_law_span_here"), (Str.ofString "_law_one"), (Str.ofString "_law_other")], defScope (top 36), fun _ => true, tb_law_middle.fn.map fun q => (q.1, q.2.1), tb_law_middle.gl.map (·.1), ⟨false, false⟩⟩).ss (defBody (top 36)) = true := by decide +kernel
theorem good_law_middle (c : He.SaysD faL fnL K) (X : K.In h) (G : h.Ns mainGlobals mg) (M : ModG mg base ⟨false, false⟩) (E : exB K = true) : Good P w K mg base 4 (Str.ofString "_law_middle") 2 sp_law_middle := by
  obtain ⟨fd, F⟩ := c.def_ 31 (d := mkD (Str.ofString "_law_middle") (Str.ofString "_law_middle") 36) rfl
  exact def_ok (k := 3) (ps := [(Str.ofString "_law_form"), (Str.ofString "_law_span_here")]) tb_law_middle b_law_middle M (.cons ((good_law_rank c X G M E).up (by decide)) (.cons ((good_law_ranked c X G M E).up (by decide)) AllGood.nil)) AllGl.nil F sc_law_middle (F.bindsN fun _ _ _ _ _ _ us hl => match us, hl with | [_, _], _ => rfl) (He.glo_ok X G (c.fact 31 (f := .glo (Str.ofString "_law_middle")) rfl)) mono_law_middle pure_law_middle ck_law_middle
theorem sc_law_widest : FnScope [(Str.ofString "_law_form"), (Str.ofString "_law_box_here"), (Str.ofString "_law_apart"), (Str.ofString "_law_span_here")] [(Str.ofString "_law_form"), (Str.ofString "_law_box_here")] (defScope (top 37)) := ⟨rfl, rfl, rfl, by decide +kernel, rfl, by decide +kernel, by decide +kernel⟩
theorem ck_law_widest : (ckS b_law_widest ⟨[(Str.ofString "_law_form"), (Str.ofString "_law_box_here"), (Str.ofString "_law_apart"), (Str.ofString "_law_span_here")], defScope (top 37), fun _ => true, tb_law_widest.fn.map fun q => (q.1, q.2.1), tb_law_widest.gl.map (·.1), ⟨false, false⟩⟩).ss (defBody (top 37)) = true := by decide +kernel
theorem good_law_widest (c : He.SaysD faL fnL K) (X : K.In h) (G : h.Ns mainGlobals mg) (M : ModG mg base ⟨false, false⟩) (E : exB K = true) : Good P w K mg base 3 (Str.ofString "_law_widest") 2 sp_law_widest := by
  obtain ⟨fd, F⟩ := c.def_ 32 (d := mkD (Str.ofString "_law_widest") (Str.ofString "_law_widest") 37) rfl
  exact def_ok (k := 2) (ps := [(Str.ofString "_law_form"), (Str.ofString "_law_box_here")]) tb_law_widest b_law_widest M (.cons ((good_law_rank c X G M E).up (by decide)) AllGood.nil) AllGl.nil F sc_law_widest (F.bindsN fun _ _ _ _ _ _ us hl => match us, hl with | [_, _], _ => rfl) (He.glo_ok X G (c.fact 32 (f := .glo (Str.ofString "_law_widest")) rfl)) mono_law_widest pure_law_widest ck_law_widest
theorem sc_law_parted : FnScope [(Str.ofString "_law_form"), (Str.ofString "_law_box_here"), (Str.ofString "_law_index"), (Str.ofString "_law_middle_here"), (Str.ofString "_law_one"), (Str.ofString "_law_other")] [(Str.ofString "_law_form"), (Str.ofString "_law_box_here"), (Str.ofString "_law_index")] (defScope (top 38)) := ⟨rfl, rfl, rfl, by decide +kernel, rfl, by decide +kernel, by decide +kernel⟩
theorem ck_law_parted : (ckS b_law_parted ⟨[(Str.ofString "_law_form"), (Str.ofString "_law_box_here"), (Str.ofString "_law_index"), (Str.ofString "_law_middle_here"), (Str.ofString "_law_one"), (Str.ofString "_law_other")], defScope (top 38), fun _ => true, tb_law_parted.fn.map fun q => (q.1, q.2.1), tb_law_parted.gl.map (·.1), ⟨false, false⟩⟩).ss (defBody (top 38)) = true := by decide +kernel
theorem good_law_parted (c : He.SaysD faL fnL K) (X : K.In h) (G : h.Ns mainGlobals mg) (M : ModG mg base ⟨false, false⟩) (E : exB K = true) : Good P w K mg base 5 (Str.ofString "_law_parted") 3 sp_law_parted := by
  obtain ⟨fd, F⟩ := c.def_ 33 (d := mkD (Str.ofString "_law_parted") (Str.ofString "_law_parted") 38) rfl
  exact def_ok (k := 4) (ps := [(Str.ofString "_law_form"), (Str.ofString "_law_box_here"), (Str.ofString "_law_index")]) tb_law_parted b_law_parted M (.cons ((good_law_middle c X G M E).up (by decide)) AllGood.nil) AllGl.nil F sc_law_parted (F.bindsN fun _ _ _ _ _ _ us hl => match us, hl with | [_, _, _], _ => rfl) (He.glo_ok X G (c.fact 33 (f := .glo (Str.ofString "_law_parted")) rfl)) mono_law_parted pure_law_parted ck_law_parted
theorem sc_law_full_box : FnScope [(Str.ofString "_law_bag_here"), (Str.ofString "_law_form"), (Str.ofString "_law_many"), (Str.ofString "_law_turn"), (Str.ofString "_law_found"), (Str.ofString "_law_most"), (Str.ofString "_law_first"), (Str.ofString "_law_last")] [(Str.ofString "_law_bag_here"), (Str.ofString "_law_form"), (Str.ofString "_law_many")] (defScope (top 39)) := ⟨rfl, rfl, rfl, by decide +kernel, rfl, by decide +kernel, by decide +kernel⟩
theorem ck_law_full_box : (ckS b_law_full_box ⟨[(Str.ofString "_law_bag_here"), (Str.ofString "_law_form"), (Str.ofString "_law_many"), (Str.ofString "_law_turn"), (Str.ofString "_law_found"), (Str.ofString "_law_most"), (Str.ofString "_law_first"), (Str.ofString "_law_last")], defScope (top 39), fun _ => true, tb_law_full_box.fn.map fun q => (q.1, q.2.1), tb_law_full_box.gl.map (·.1), ⟨false, false⟩⟩).ss (defBody (top 39)) = true := by decide +kernel
theorem good_law_full_box (c : He.SaysD faL fnL K) (X : K.In h) (G : h.Ns mainGlobals mg) (M : ModG mg base ⟨false, false⟩) (E : exB K = true) : Good P w K mg base 4 (Str.ofString "_law_full_box") 3 sp_law_full_box := by
  obtain ⟨fd, F⟩ := c.def_ 34 (d := mkD (Str.ofString "_law_full_box") (Str.ofString "_law_full_box") 39) rfl
  exact def_ok (k := 3) (ps := [(Str.ofString "_law_bag_here"), (Str.ofString "_law_form"), (Str.ofString "_law_many")]) tb_law_full_box b_law_full_box M (.cons ((good_law_rank c X G M E).up (by decide)) (.cons ((good_law_some c X G M E).up (by decide)) (.cons ((good_law_take c X G M E).up (by decide)) (.cons ((good_law_ranked c X G M E).up (by decide)) AllGood.nil)))) AllGl.nil F sc_law_full_box (F.bindsN fun _ _ _ _ _ _ us hl => match us, hl with | [_, _, _], _ => rfl) (He.glo_ok X G (c.fact 34 (f := .glo (Str.ofString "_law_full_box")) rfl)) mono_law_full_box pure_law_full_box ck_law_full_box
theorem sc_law : FnScope [(Str.ofString "_law_script"), (Str.ofString "_law_bag_here"), (Str.ofString "_law_turn"), (Str.ofString "_law_form"), (Str.ofString "_law_box_here"), (Str.ofString "_law_shown"), (Str.ofString "_law_index"), (Str.ofString "_law_span_here")] [(Str.ofString "_law_script")] (defScope (top 40)) := ⟨rfl, rfl, rfl, by decide +kernel, rfl, by decide +kernel, by decide +kernel⟩
theorem ck_law : (ckS b_law ⟨[(Str.ofString "_law_script"), (Str.ofString "_law_bag_here"), (Str.ofString "_law_turn"), (Str.ofString "_law_form"), (Str.ofString "_law_box_here"), (Str.ofString "_law_shown"), (Str.ofString "_law_index"), (Str.ofString "_law_span_here")], defScope (top 40), fun _ => true, tb_law.fn.map fun q => (q.1, q.2.1), tb_law.gl.map (·.1), ⟨false, false⟩⟩).ss (defBody (top 40)) = true := by decide +kernel
theorem fn_law {fd : FuncData} (F : FunD K "law" "law" (defArgs (top 40)) (defBody (top 40)) (defScope (top 40)) [] [] (He.ga K "law") fd) (c : He.SaysD faL fnL K) (X : K.In h) (G : h.Ns mainGlobals mg) (M : ModG mg base ⟨false, false⟩) (E : exB K = true) : FnOkG P w K mg base 8 (He.ga K "law") fd [(Str.ofString "_law_script")] (spG K 1 sp_law) :=
  def_fn (k := 7) tb_law b_law M (.cons ((good_law_bag c X G M E).up (by decide)) (.cons ((good_law_any_format c X G M E).up (by decide)) (.cons ((good_law_take c X G M E).up (by decide)) (.cons ((good_law_box c X G M E).up (by decide)) (.cons ((good_law_full_box c X G M E).up (by decide)) (.cons ((good_law_alike c X G M E).up (by decide)) (.cons ((good_middle_of c X G M E).up (by decide)) (.cons ((good_law_middle c X G M E).up (by decide)) (.cons ((good_widest c X G M E).up (by decide)) (.cons ((good_law_widest c X G M E).up (by decide)) (.cons ((good_parted_box c X G M E).up (by decide)) (.cons ((good_law_parted c X G M E).up (by decide)) AllGood.nil)))))))))))) AllGl.nil F sc_law pure_law ck_law
end
end VI
open PySem PySem.W PySem.Calls PyProof.Rows
theorem PySem.Challenge.cw_nearestheld_k71_boxes_parted_holds : PySem.Challenge.rw_nearestheld_k71_boxes_parted.Holds := by
  w_on; o_law
  refine HandSHeadRun.head_any (r := OpenLaw.row PySem.Challenge.rw_nearestheld_k71_boxes_parted) (q := view (OpenLaw.row PySem.Challenge.rw_nearestheld_k71_boxes_parted).prog [40]) (H := VI.Hd.hk) (ob := VI.Hd.ob) (M := 4000) (loose := VI.Hd.loose) (d := HandSHeadRun.topDef (OpenLaw.row PySem.Challenge.rw_nearestheld_k71_boxes_parted).prog 40) (kwd := []) VI.Hd.ob_eq
    (by kernel_rfl) (fun s => by kernel_rfl) VI.Hd.runs (by kernel_rfl) (by kernel_rfl) (by kernel_rfl) (by rfl) (by first | assumption | decide +kernel) (by decide +kernel) ⟨rfl, rfl, rfl, rfl, rfl, by decide +kernel⟩ ?hw ?hc
  case hw => w_witness2
  case hc =>
    refine VI.walk_ofG (l := PySem.Challenge.rw_nearestheld_k71_boxes_parted) (n := 63) (k := 8) (x := ("_law_script" : PySem.Str)) (f := VI.sp_law) rfl (by decide) (by kernel_rfl) ⟨rfl, by decide, by decide⟩ VI.mono_law ?F VI.plain_law
    intro w mg fa h Y G hmg0
    obtain ⟨K, KX, sx⟩ := Y
    have c := sx.t.d
    have hmg : mg ("law" : PySem.Str) = some (.ref fa) := by
      have e : (HandSHeadRun.topDef (OpenLaw.row PySem.Challenge.rw_nearestheld_k71_boxes_parted).prog 40).name = ("law" : PySem.Str) := by kernel_rfl
      rw [← e]
      exact hmg0
    obtain ⟨fd, F⟩ := c.def_ 35 (d := VI.Hd.mkD "law" "law" 40) rfl
    have e := hmg.symm.trans (He.glo_ok KX G (c.fact 35 (f := .glo "law") rfl))
    cases e
    have b := L2.FunD.bindsA (ps := [("_law_script" : PySem.Str)]) F fun _ _ _ _ _ _ us hl => match us, hl with | [_], _ => rfl
    refine ⟨K, fd, KX, fun s v => b s [v] rfl, fun base _ _ nd => VI.fn_law F c KX G ⟨fun x hx => He.free_ok KX G (He.SaysD.facts c (f := .free x) (List.mem_append_right _ (List.mem_map.mpr ⟨x, hx, rfl⟩))), (fun z => nomatch z), (fun z => nomatch z), nd⟩ sx.more⟩
