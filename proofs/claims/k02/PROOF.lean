import PyProof.Rows.All
import Wide.All
import OpenK.AllK
import Wide.FinOn
import KE.KStateDown
import Lean
import HandS.Base
import HandS.Call
import HandS.Ends
import HandS.More
import HandS.Words
import HandS.WordsExc
import HandS.Defaults
import HandS.Head0
import HandS.Head1
import HandS.Head2
import HandS.Head3
import HandS.HeadEnd
import HandS.HeadHook1
import HandS.HeadHook2
import HandS.HeadHook3
import HandS.HeadHook4
import HandS.HeadWalk
import PySem.Str
import HandS.Dict
import HandS.WordsDict
import HandS.Iter
import HandS.List
import KE.KeyNested
import KE.KDictKeyed
import HandS.ForMost
import HandS.ForExc
import HandS.IsInst
import HandS.Deep
import HandS.TupAny
import HandS.TupMul
import HandS.Conv
import HandS.Zip
import HandS.Wide
import HandS.AnyAll
import HandS.TupLe
import PyProof.FactsAll.tuple_2
import PyProof.SeqIndex
import KE.KIndexOf
import HandS.Text
import PyProof.Rows.InDataRows
import KE.DataMinMax
import KE.SortData
import KE.DatumOrd
import KE.GoesMore
import PyProof.EnumMake
import HandS.GenList
import PyProof.WalksS
import PyProof.ConsumeS
import PyProof.GenArm
import PyProof.TupleOfGen
import HandS.Style
import HandS.SortInts
import PyProof.TupleOfSeq
import KE.KRevSl
import HandS.GenOver
import PyProof.EvalArms
import HandS.Exc
import HandS.ExcIs
import HandS.ExcOwn
import HandS.Star
import PyProof.P3Eq
import KE.KDictItemsList
import KE.KDictDisplayH
import KE.KDictWalk
import KE.KDictCopyH
import KE.KDictSum
import PyProof.DictUpdate
import PyProof.DictDisplay
import PySem.Challenge.RW_leastmarked_k02_whole_distances
set_option Elab.async false
set_option linter.all false
set_option maxRecDepth 100000
set_option maxHeartbeats 0
namespace DLH
open PySem PySem.Spec PyProof.Rows L2
/-! ### the text -/
def top (i : Nat) : Stmt := PySem.Challenge.pw_leastmarked_k02_whole_distances.main.body.getD i (.Pass ⟨0, 0, 0, 0⟩)
abbrev s_place_of : Stmt := top 1
abbrev N_place_of : List Str := ["ranking", "constraint"]
theorem sc_place_of : FnScope N_place_of ["ranking", "constraint"] (defScope s_place_of) := ⟨rfl, rfl, rfl, by decide +kernel, rfl, by decide +kernel, by decide +kernel⟩

abbrev s_swapped : Stmt := top 2
abbrev N_swapped : List Str := ["ranking", "place"]
theorem sc_swapped : FnScope N_swapped ["ranking", "place"] (defScope s_swapped) := ⟨rfl, rfl, rfl, by decide +kernel, rfl, by decide +kernel, by decide +kernel⟩

abbrev s_distance : Stmt := top 3
abbrev N_distance : List Str := ["one", "two", "found", "high", "low"]
theorem sc_distance : FnScope N_distance ["one", "two"] (defScope s_distance) := ⟨rfl, rfl, rfl, by decide +kernel, rfl, by decide +kernel, by decide +kernel⟩

abbrev s__law_same : Stmt := top 5
abbrev N__law_same : List Str := ["actual", "due", "k"]
theorem sc__law_same : FnScope N__law_same ["actual", "due"] (defScope s__law_same) := ⟨rfl, rfl, rfl, by decide +kernel, rfl, by decide +kernel, by decide +kernel⟩

abbrev s__law_pool : Stmt := top 6
abbrev N__law_pool : List Str := ["script", "salt", "cell"]
theorem sc__law_pool : FnScope N__law_pool ["script"] (defScope s__law_pool) := ⟨rfl, rfl, rfl, by decide +kernel, rfl, by decide +kernel, by decide +kernel⟩

abbrev s__law_spread : Stmt := top 7
abbrev N__law_spread : List Str := ["cell", "mixed", "total", "k"]
theorem sc__law_spread : FnScope N__law_spread ["cell"] (defScope s__law_spread) := ⟨rfl, rfl, rfl, by decide +kernel, rfl, by decide +kernel, by decide +kernel⟩

abbrev s__law_draw : Stmt := top 8
abbrev N__law_draw : List Str := ["pool", "many", "cell", "mixed", "value"]
theorem sc__law_draw : FnScope N__law_draw ["pool", "many"] (defScope s__law_draw) := ⟨rfl, rfl, rfl, by decide +kernel, rfl, by decide +kernel, by decide +kernel⟩

abbrev s__law_ranking : Stmt := top 9
abbrev N__law_ranking : List Str := ["pool", "size", "left", "found"]
theorem sc__law_ranking : FnScope N__law_ranking ["pool", "size"] (defScope s__law_ranking) := ⟨rfl, rfl, rfl, by decide +kernel, rfl, by decide +kernel, by decide +kernel⟩

abbrev s__law_inversions : Stmt := top 10
abbrev N__law_inversions : List Str := ["one", "two", "found", "i", "j"]
theorem sc__law_inversions : FnScope N__law_inversions ["one", "two"] (defScope s__law_inversions) := ⟨rfl, rfl, rfl, by decide +kernel, rfl, by decide +kernel, by decide +kernel⟩

abbrev s__law_swap : Stmt := top 11
abbrev N__law_swap : List Str := ["ranking", "place"]
theorem sc__law_swap : FnScope N__law_swap ["ranking", "place"] (defScope s__law_swap) := ⟨rfl, rfl, rfl, by decide +kernel, rfl, by decide +kernel, by decide +kernel⟩

abbrev s__law_steps_between : Stmt := top 12
abbrev N__law_steps_between : List Str := ["start", "goal", "level", "known", "k", "after", "ranking", "place", "one"]
theorem sc__law_steps_between : FnScope N__law_steps_between ["start", "goal"] (defScope s__law_steps_between) := ⟨rfl, rfl, rfl, by decide +kernel, rfl, by decide +kernel, by decide +kernel⟩

abbrev s_law : Stmt := top 13
abbrev N_law : List Str := ["script", "pool", "k", "size", "one", "two", "due", "place"]
theorem sc_law : FnScope N_law ["script"] (defScope s_law) := ⟨rfl, rfl, rfl, by decide +kernel, rfl, by decide +kernel, by decide +kernel⟩

/-! ### the head -/
def dd (x : Str) (st : Stmt) : He.DefD := ⟨(x, none), x, x, defArgs st, defBody st, defScope st, [], []⟩
def fn : List He.DefD := [dd "place_of" s_place_of, dd "swapped" s_swapped, dd "distance" s_distance, dd "_law_same" s__law_same, dd "_law_pool" s__law_pool, dd "_law_spread" s__law_spread, dd "_law_draw" s__law_draw, dd "_law_ranking" s__law_ranking, dd "_law_inversions" s__law_inversions, dd "_law_swap" s__law_swap, dd "_law_steps_between" s__law_steps_between, dd "law" s_law]
def fa : List He.Fa := [.glo "place_of", .glo "swapped", .glo "distance", .glo "_law_same", .glo "_law_pool", .glo "_law_spread", .glo "_law_draw", .glo "_law_ranking", .glo "_law_inversions", .glo "_law_swap", .glo "_law_steps_between", .glo "law", .free "len", .free "range", .free "isinstance", .free "int", .free "bool", .free "str", .free "tuple", .free "list", .free "sorted", .free "min", .free "max", .free "sum", .free "any", .free "all", .free "zip", .free "enumerate", .free "reversed", .free "set", .free "repr", .free "dict", .free "abs"]
abbrev R : PySem.W.OpenRow := PySem.W.OpenLaw.row PySem.Challenge.rw_leastmarked_k02_whole_distances
abbrev hk : PySem.W.Hook := He.hookD 4 fa fn
def ob (s : PySem.W.SharedT) : He.AlD := He.obsDG 4 fa fn (HandSHeadRun.getT s)
theorem ob_eq (s : PySem.W.SharedT) : ob s = hk.obs s.abs := He.obsDG_eq (HandSHeadRun.getT_eq s)
def loose : List Str := (["place_of", "swapped", "distance", "_law_same", "_law_pool", "_law_spread", "_law_draw", "_law_ranking", "_law_inversions", "_law_swap", "_law_steps_between"] : List Str)
theorem run (w : World) : HandSHeadRun.RunEq R (PySem.W.view R.prog [13]) hk ob 2800 loose w := by
  intro os
  kernel_rfl
end DLH

set_option Elab.async false
set_option linter.all false
set_option maxRecDepth 100000
/-! DL0: data as trees, and what the constructs of Python do with them (readings over data; no heap). -/
namespace DL
open PySem (Str)

/-- a value as a tree; pool: the law's pool of draws, opaque -/
inductive D where
  | non | bl (b : Bool) | int (i : Int) | str (x : Str) | tup (xs : List D) | lst (xs : List D) | dct (ks vs : List D) | pool | frz (ns : List Int) | rnk (ns : List Int) | gd (ks vs : List D)

/-- a slot of a frame: a value; a list that the def itself changes -/
inductive Sl where
  | val (d : D) | own (ds : List D) | dic (kvs : List (D × D)) | gdi (kvs : List (D × D))
def Sl.mine : Sl → Bool
  | .val _ => false
  | .own _ => true
  | .dic _ => true
  | .gdi _ => true
abbrev DEnv := List (Option Sl)
@[simp] abbrev LN : Nat := 16777216

abbrev ME := DEnv → (D → DEnv → Prop) → Prop
abbrev MT := DEnv → (Bool → DEnv → Prop) → Prop
abbrev MA := DEnv → (List D → DEnv → Prop) → Prop
abbrev MG := D → DEnv → (DEnv → Prop) → Prop
structure DEnds where
  nx : DEnv → Prop
  rt : D → Prop
  bk : DEnv → Prop := fun _ => False
  ct : DEnv → Prop := fun _ => False
  rn : List D → Prop := fun _ => False
abbrev MS := DEnds → DEnv → Prop
/-- a def's contract: its arguments, what is wanted of the answer -/
abbrev FD := List D → (D → Prop) → Prop
abbrev O1 := D → (D → Prop) → Prop
abbrev O2 := D → D → (D → Prop) → Prop

/-! ### equality as Python has it -/
mutual
def peq : D → D → Bool
  | .non, .non => true
  | .bl a, .bl b => a == b
  | .bl a, .int j => (if a then 1 else 0) == j
  | .int i, .bl b => i == (if b then 1 else 0)
  | .int i, .int j => i == j
  | .str x, .str y => x == y
  | .tup xs, .tup ys => peqs xs ys
  | .lst xs, .lst ys => peqs xs ys
  | _, _ => false
def peqs : List D → List D → Bool
  | [], [] => true
  | x :: xs, y :: ys => peq x y && peqs xs ys
  | _, _ => false
end
/-! data that == and in can be asked of: no pool, no dict; nested at most n deep -/
mutual
def plain : Nat → D → Bool
  | _, .non => true
  | _, .bl _ => true
  | _, .int _ => true
  | _, .str x => x.cps.all (· < 0x110000)
  | 0, .tup _ => false
  | n + 1, .tup xs => plains n xs
  | 0, .lst _ => false
  | n + 1, .lst xs => plains n xs
  | _, .dct _ _ => false
  | _, .pool => false
  | _, .frz _ => false
  | _, .rnk _ => false
  | _, .gd _ _ => false
def plains : Nat → List D → Bool
  | _, [] => true
  | n, x :: xs => plain n x && plains n xs
end
/-- depth that == serves -/
abbrev DP : Nat := 60

/-! ### truth, places -/
def ixN (n : Nat) (i : Int) : Option Nat := if 0 ≤ i then (if i < n then some i.toNat else none) else if -(n : Int) ≤ i then some (i + n).toNat else none
def atI {α : Type} (xs : List α) (i : Int) : Option α := (ixN xs.length i).bind fun j => xs[j]?
def sIx (n d : Nat) : Option Int → Nat
  | none => d
  | some v => if v < 0 then (v + (n : Int)).toNat else min v.toNat n
def cut {α : Type} (xs : List α) (lo hi : Option Int) : List α := (xs.drop (sIx xs.length 0 lo)).take (sIx xs.length xs.length hi - sIx xs.length 0 lo)
@[simp] def truth : D → Option Bool
  | .non => some false
  | .bl b => some b
  | .int i => some (i != 0)
  | .tup xs => some (!xs.isEmpty)
  | .lst xs => some (!xs.isEmpty)
  | _ => none

/-! ### operators -/
@[simp] def oAdd : O2 := fun x y P => match x, y with
  | .int i, .int j => P (.int (i + j))
  | .tup a, .tup b => a.length + b.length ≤ LN ∧ P (.tup (a ++ b))
  | .lst a, .lst b => a.length + b.length ≤ LN ∧ P (.lst (a ++ b))
  | .str a, .str b => a.length + b.length ≤ LN ∧ P (.str (a ++ b))
  | _, _ => False
@[simp] def oIAdd : O2 := fun x y P => match x, y with
  | .int i, .int j => P (.int (i + j))
  | _, _ => False
@[simp] def oSub : O2 := fun x y P => match x, y with
  | .int i, .int j => P (.int (i - j))
  | _, _ => False
/-- one side below 2^64 -/
@[simp] def oMul : O2 := fun x y P => match x, y with
  | .int i, .int j => ((-(2 ^ 64) < i ∧ i < 2 ^ 64) ∨ (-(2 ^ 64) < j ∧ j < 2 ^ 64)) ∧ P (.int (i * j))
  | _, _ => False
@[simp] def oMod : O2 := fun x y P => match x, y with
  | .int i, .int j => 0 < j ∧ P (.int (i % j))
  | _, _ => False
@[simp] def oDiv : O2 := fun x y P => match x, y with
  | .int i, .int j => 0 < j ∧ j < 340282366920938463463374607431768211456 ∧ P (.int (i / j))
  | _, _ => False
/-- t * n of a written tuple, a list -/
@[simp] def oRep1 : O2 := fun x y P => match x, y with
  | .tup a, .int k => a ≠ [] ∧ a.length ≤ 1000 ∧ 0 ≤ k ∧ k ≤ 1000 ∧ P (.tup (List.replicate k.toNat a).flatten)
  | .lst a, .int k => 0 ≤ k ∧ k < 2 ^ 62 ∧ a.length * k.toNat ≤ LN ∧ P (.lst (List.replicate k.toNat a).flatten)
  | .int i, .int j => ((-(2 ^ 64) < i ∧ i < 2 ^ 64) ∨ (-(2 ^ 64) < j ∧ j < 2 ^ 64)) ∧ P (.int (i * j))
  | _, _ => False
/-- t * n -/
@[simp] def oRep : O2 := fun x y P => match x, y with
  | .tup a, .int k => 0 ≤ k ∧ k < 2 ^ 62 ∧ a.length * k.toNat ≤ LN ∧ P (.tup (List.replicate k.toNat a).flatten)
  | .lst a, .int k => 0 ≤ k ∧ k < 2 ^ 62 ∧ a.length * k.toNat ≤ LN ∧ P (.lst (List.replicate k.toNat a).flatten)
  | _, _ => False
def lexLt : List Int → List Int → Bool
  | [], [] => false
  | [], _ :: _ => true
  | _ :: _, [] => false
  | x :: xs, y :: ys => if x = y then lexLt xs ys else decide (x < y)
@[simp] def oLt : O2 := fun x y P => match x, y with
  | .int i, .int j => P (.bl (decide (i < j)))
  | .tup xs, .tup ys => ∃ ns ms : List Int, xs = ns.map D.int ∧ ys = ms.map D.int ∧ P (.bl (lexLt ns ms))
  | _, _ => False
@[simp] def oLe : O2 := fun x y P => match x, y with
  | .int i, .int j => P (.bl (decide (i ≤ j)))
  | _, _ => False
@[simp] def oGt : O2 := fun x y P => match x, y with
  | .int i, .int j => P (.bl (decide (j < i)))
  | _, _ => False
@[simp] def oGe : O2 := fun x y P => match x, y with
  | .int i, .int j => P (.bl (decide (j ≤ i)))
  | _, _ => False
@[simp] def oEq : O2 := fun x y P => plain DP x = true ∧ plain DP y = true ∧ P (.bl (peq x y))
@[simp] def oNe : O2 := fun x y P => plain DP x = true ∧ plain DP y = true ∧ P (.bl (!peq x y))
def dIn (x : D) (ys : List D) : Bool := ys.any fun z => peq z x
@[simp] def oIn : O2 := fun x y P => match y with
  | .tup ys => plain DP x = true ∧ plain DP y = true ∧ P (.bl (dIn x ys))
  | .lst ys => plain DP x = true ∧ plain DP y = true ∧ P (.bl (dIn x ys))
  | _ => False
@[simp] def oNotIn : O2 := fun x y P => match y with
  | .tup ys => plain DP x = true ∧ plain DP y = true ∧ P (.bl (!dIn x ys))
  | .lst ys => plain DP x = true ∧ plain DP y = true ∧ P (.bl (!dIn x ys))
  | _ => False
@[simp] def isNon : D → Bool
  | .non => true
  | _ => false
@[simp] def oIs : O2 := fun x y P => y = .non ∧ P (.bl (isNon x))
@[simp] def oIsNot : O2 := fun x y P => y = .non ∧ P (.bl (!isNon x))
@[simp] def oIsN : O1 := fun x P => P (.bl (isNon x))
@[simp] def oNotN : O1 := fun x P => P (.bl (!isNon x))
@[simp] def oNeg : O1 := fun x P => match x with
  | .int i => P (.int (-i))
  | _ => False
@[simp] def oIx : O2 := fun x y P => match x, y with
  | .tup xs, .int i => ∃ d, atI xs i = some d ∧ P d
  | .lst xs, .int i => ∃ d, atI xs i = some d ∧ P d
  | .str w, .int i => w.length ≤ LN ∧ ∃ c, atI w.cps.toList i = some c ∧ P (.str ⟨#[c]⟩)
  | _, _ => False
@[simp] def oCut : D → Option Int → Option Int → (D → Prop) → Prop := fun x lo hi P => match x with
  | .tup xs => P (.tup (cut xs lo hi))
  | .lst xs => P (.lst (cut xs lo hi))
  | .frz ns => P (.lst (cut (ns.map D.int) lo hi))
  | .str w => w.length ≤ LN ∧ P (.str ⟨(cut w.cps.toList lo hi).toArray⟩)
  | _ => False
/-- the signs of a text -/
def signsD (w : Str) : List D := w.cps.toList.map fun c => .str ⟨#[c]⟩

/-! ### built-ins of values -/
@[simp] def fLen : FD := fun ds P => match ds with
  | [.tup xs] => P (.int xs.length)
  | [.lst xs] => P (.int xs.length)
  | [.str w] => w.length ≤ LN ∧ P (.int w.length)
  | _ => False
@[simp] def fList : FD := fun ds P => match ds with
  | [.tup xs] => P (.lst xs)
  | [.lst xs] => P (.lst xs)
  | [.frz ns] => P (.lst (ns.map D.int))
  | _ => False
@[simp] def fTuple : FD := fun ds P => match ds with
  | [.tup xs] => P (.tup xs)
  | [.lst xs] => P (.tup xs)
  | _ => False
@[simp] def fInt : FD := fun ds P => match ds with
  | [.int i] => P (.int i)
  | [.bl b] => P (.int (if b then 1 else 0))
  | _ => False
@[simp] def fMin2 : FD := fun ds P => match ds with
  | [.int i, .int j] => P (.int (min i j))
  | _ => False
@[simp] def fMax2 : FD := fun ds P => match ds with
  | [.int i, .int j] => P (.int (max i j))
  | _ => False
/-- the first of the least rows -/
def minR (x : List Int) (xs : List (List Int)) : List Int := xs.foldl (fun a y => if lexLt y a = true then y else a) x
/-- min of one list or tuple, of ints or of rows of ints -/
def fMin1 : FD := fun ds P => ∃ xs : List D, (ds = [.lst xs] ∨ ds = [.tup xs]) ∧ ((∃ (n : Int) (ns : List Int), xs = (n :: ns).map D.int ∧ P (.int (ns.foldl min n))) ∨
  ∃ (r : List Int) (rs : List (List Int)), xs = (r :: rs).map (fun c => .tup (c.map D.int)) ∧ P (.tup ((minR r rs).map D.int)))
inductive Ty where | int | bool | str | tuple | list
  deriving DecidableEq
@[simp] def isA : D → Ty → Option Bool
  | .pool, _ => none
  | .frz _, _ => none
  | .rnk _, _ => none
  | .gd _ _, _ => none
  | .dct _ _, _ => some false
  | .int _, t => some (t == .int)
  | .bl _, t => some (t == .bool || t == .int)
  | .str _, t => some (t == .str)
  | .tup _, t => some (t == .tuple)
  | .lst _, t => some (t == .list)
  | .non, _ => some false
@[simp] def oIsA (t : Ty) : O1 := fun x P => match isA x t with
  | some b => P (.bl b)
  | none => False

/-! ### expressions -/
@[simp] def eVar (i : Nat) : ME := fun env P => match env[i]? with
  | some (some (.val d)) => P d env
  | _ => False
@[simp] def eC (d : D) : ME := fun env P => P d env
@[simp] def eBin (o : O2) (a b : ME) : ME := fun env P => a env fun x e1 => b e1 fun y e2 => o x y fun z => P z e2
@[simp] def eUn (o : O1) (a : ME) : ME := fun env P => a env fun x e1 => o x fun z => P z e1
@[simp] def aNil : MA := fun env P => P [] env
@[simp] def aCons (a : ME) (r : MA) : MA := fun env P => a env fun x e1 => r e1 fun xs e2 => P (x :: xs) e2
@[simp] def eTup (r : MA) : ME := fun env P => r env fun xs e1 => xs.length ≤ LN ∧ P (.tup xs) e1
@[simp] def eLst (r : MA) : ME := fun env P => r env fun xs e1 => xs.length ≤ LN ∧ P (.lst xs) e1
@[simp] def eCall (F : FD) (r : MA) : ME := fun env P => r env fun xs e1 => F xs fun d => P d e1
/-- slices -/
@[simp] def eCut (a : ME) (lo hi : DEnv → (Option Int → DEnv → Prop) → Prop) : ME := fun env P => a env fun x e1 => lo e1 fun l e2 => hi e2 fun h e3 => oCut x l h fun z => P z e3
@[simp] def pNo : DEnv → (Option Int → DEnv → Prop) → Prop := fun env P => P none env
@[simp] def pAt (a : ME) : DEnv → (Option Int → DEnv → Prop) → Prop := fun env P => a env fun x e1 => match x with
  | .int i => P (some i) e1
  | _ => False
/-- and, or, not by truth values; conditional expressions -/
@[simp] def eAnd (a b : ME) : ME := fun env P => a env fun x e1 => match x with
  | .bl k => if k = true then b e1 P else P (.bl false) e1
  | _ => False
@[simp] def eOr (a b : ME) : ME := fun env P => a env fun x e1 => match x with
  | .bl k => if k = true then P (.bl true) e1 else b e1 P
  | _ => False
@[simp] def eNot (a : ME) : ME := fun env P => a env fun x e1 => match x with
  | .bl k => P (.bl (!k)) e1
  | _ => False
@[simp] def eIf (c : MT) (a b : ME) : ME := fun env P => c env fun k e1 => if k = true then a e1 P else b e1 P
/-- a < b < c -/
@[simp] def eChain (o o' : O2) (a b c : ME) : ME := fun env P => a env fun x e1 => b e1 fun y e2 => o x y fun z => match z with
  | .bl k => if k = true then c e2 fun u e3 => o' y u fun z' => P z' e3 else P (.bl false) e2
  | _ => False

/-! ### tests -/
@[simp] def tVal (a : ME) : MT := fun env P => a env fun x e1 => match x with
  | .bl k => P k e1
  | _ => False
@[simp] def tTru (a : ME) : MT := fun env P => a env fun x e1 => match truth x with
  | some k => P k e1
  | none => False
@[simp] def tAnd (a b : MT) : MT := fun env P => a env fun k e1 => if k = true then b e1 P else P false e1
@[simp] def tOr (a b : MT) : MT := fun env P => a env fun k e1 => if k = true then P true e1 else b e1 P
@[simp] def tNot (a : MT) : MT := fun env P => a env fun k e1 => P (!k) e1

/-! ### targets -/
@[simp] def gName (i : Nat) : MG := fun d env P => P (env.set i (some (.val d)))
@[simp] def gNil : List D → DEnv → (DEnv → Prop) → Prop := fun ds env P => ds = [] ∧ P env
@[simp] def gCons (g : MG) (r : List D → DEnv → (DEnv → Prop) → Prop) : List D → DEnv → (DEnv → Prop) → Prop := fun ds env P => match ds with
  | [] => False
  | d :: ds => g d env fun e1 => r ds e1 P
@[simp] def gTup (r : List D → DEnv → (DEnv → Prop) → Prop) : MG := fun d env P => match d with
  | .tup ds => r ds env P
  | _ => False

/-! ### what is walked -/
abbrev MI := DEnv → (List D → DEnv → Prop) → Prop
/-- a list, a tuple -/
@[simp] def iSeq (a : ME) : MI := fun env P => a env fun x e1 => match x with
  | .tup xs => P xs e1
  | .lst xs => P xs e1
  | .str w => P (signsD w) e1
  | _ => False
def intsD (lo : Int) : Nat → List D
  | 0 => []
  | n + 1 => .int lo :: intsD (lo + 1) n
@[simp] def iRange1 (a : ME) : MI := fun env P => a env fun x e1 => match x with
  | .int n => n < 2 ^ 62 ∧ -(2 ^ 62) ≤ n ∧ P (intsD 0 n.toNat) e1
  | _ => False
@[simp] def iRange2 (a b : ME) : MI := fun env P => a env fun x e1 => b e1 fun y e2 => match x, y with
  | .int i, .int j => (-(2 ^ 62) ≤ i ∧ i < 2 ^ 62 ∧ -(2 ^ 62) ≤ j ∧ j < 2 ^ 62) ∧ P (intsD i (j - i).toNat) e2
  | _, _ => False
def zipT : List D → List D → List D
  | x :: xs, y :: ys => .tup [x, y] :: zipT xs ys
  | _, _ => []
@[simp] def seqOf : D → Option (List D)
  | .tup xs => some xs
  | .lst xs => some xs
  | _ => none
@[simp] def iZip (a b : ME) : MI := fun env P => a env fun x e1 => b e1 fun y e2 => match x, y with
  | .tup xs, .tup ys => P (zipT xs ys) e2
  | .lst xs, .lst ys => P (zipT xs ys) e2
  | _, _ => False
def enumT (n : Int) : List D → List D
  | [] => []
  | x :: xs => .tup [.int n, x] :: enumT (n + 1) xs
@[simp] def iEnumL (a : ME) : MI := fun env P => a env fun x e1 => match x with
  | .lst xs => P (enumT 0 xs) e1
  | _ => False
@[simp] def iEnum (a : ME) : MI := fun env P => a env fun x e1 => match seqOf x with
  | some xs => P (enumT 0 xs) e1
  | none => False

/-! ### statements -/
@[simp] def sNop : MS := fun E env => E.nx env
@[simp] def sSeq (a b : MS) : MS := fun E env => a { E with nx := fun e => b E e } env
@[simp] def sSet (i : Nat) (e : ME) : MS := fun E env => e env fun d e1 => E.nx (e1.set i (some (.val d)))
@[simp] def sAsg (g : MG) (e : ME) : MS := fun E env => e env fun d e1 => g d e1 E.nx
@[simp] def sAug (i : Nat) (o : O2) (e : ME) : MS := fun E env => match env[i]? with
  | some (some (.val x)) => e env fun y e1 => o x y fun z => E.nx (e1.set i (some (.val z)))
  | _ => False
@[simp] def sRet (e : ME) : MS := fun E env => e env fun d _ => E.rt d
@[simp] def sRetN : MS := fun E _ => E.rt .non
@[simp] def sIf (c : MT) (a b : MS) : MS := fun E env => c env fun k e1 => if k = true then a E e1 else b E e1
@[simp] def sBreak : MS := fun E env => E.bk env
@[simp] def sCont : MS := fun E env => E.ct env
@[simp] def sExpr (e : ME) : MS := fun E env => e env fun _ e1 => E.nx e1
def loopFor (g : MG) (body : MS) (E : DEnds) : List D → DEnv → Prop
  | [], env => E.nx env
  | d :: ds, env => g d env fun e1 => body { nx := loopFor g body E ds, rt := E.rt, bk := E.nx, ct := loopFor g body E ds } e1
@[simp] def sFor (mi : MI) (g : MG) (body : MS) : MS := fun E env => mi env fun items e1 => loopFor g body E items e1
def whileN (c : MT) (body : MS) (E : DEnds) : Nat → DEnv → Prop
  | 0, _ => False
  | n + 1, env => c env fun k e1 => if k = true then body { nx := whileN c body E n, rt := E.rt, bk := E.nx, ct := whileN c body E n } e1 else E.nx e1
def sWhile (c : MT) (body : MS) : MS := fun E env => ∃ n, whileN c body E n env

/-! ### comprehensions, generator expressions -/
@[simp] def wipe (env : DEnv) : List Nat → DEnv
  | [] => env
  | v :: vs => (wipe env vs).set v none
/-- within a comprehension the lists that the def changes are out of sight -/
@[simp] def hide (env : DEnv) : DEnv := env.map fun s => match s with
  | some (.own _) => none
  | some (.dic _) => none
  | some (.gdi _) => none
  | s => s
@[simp] def tNone : MT := fun env P => P true env
def lcLoop (g : MG) (t : MT) (e : ME) (b : DEnv) (P : List D → Prop) : List D → List D → Prop
  | [], acc => P acc
  | d :: ds, acc => g d b fun e1 => t e1 fun k e2 => if k = true then e e2 fun y _ => lcLoop g t e b P ds (acc ++ [y]) else lcLoop g t e b P ds acc
/-- a fresh list -/
abbrev MF := DEnv → (List D → DEnv → Prop) → Prop
@[simp] def fLc (mi : MI) (g : MG) (t : MT) (e : ME) (vs : List Nat) : MF := fun env P => mi env fun items e1 => items.length ≤ LN ∧ lcLoop g t e (hide (wipe e1 vs)) (fun acc => P acc e1) items []
@[simp] def fListR1 (a : ME) : MF := fun env P => a env fun x e1 => match x with
  | .int n => 0 ≤ n ∧ n ≤ LN ∧ P (intsD 0 n.toNat) e1
  | _ => False
@[simp] def fListR2 (a b : ME) : MF := fun env P => a env fun x e1 => b e1 fun y e2 => match x, y with
  | .int i, .int j => (0 ≤ i ∧ i ≤ LN ∧ 0 ≤ j ∧ j ≤ LN) ∧ P (intsD i (j - i).toNat) e2
  | _, _ => False
/-- list(e) -/
@[simp] def fListOf (a : ME) : MF := fun env P => a env fun x e1 => match x with
  | .tup xs => P xs e1
  | .lst xs => P xs e1
  | .frz ns => P (ns.map D.int) e1
  | _ => False
/-- {} -/
@[simp] def eDct : ME := fun env P => P (.dct [] []) env
@[simp] def fLst (r : MA) : MF := fun env P => r env fun xs e1 => xs.length ≤ LN ∧ P xs e1
@[simp] def eFr (f : MF) : ME := fun env P => f env fun xs e1 => P (.lst xs) e1
/-- the turns of a generator expression: L what holds with items left; Y what the consumer gets -/
def genTurn (g : MG) (t : MT) (e : ME) (b : DEnv) (Y : D → Prop → Prop) (d : D) (L : Prop) : Prop := g d b fun e1 => t e1 fun k e2 => if k = true then e e2 fun y _ => Y y L else L
def yAll (P : Bool → Prop) (y : D) (L : Prop) : Prop := match y with
  | .bl k => if k = true then L else P false
  | _ => False
def yAny (P : Bool → Prop) (y : D) (L : Prop) : Prop := match y with
  | .bl k => if k = true then P true else L
  | _ => False
def allLoop (g : MG) (t : MT) (e : ME) (b : DEnv) (P : Bool → Prop) : List D → Prop
  | [] => P true
  | d :: ds => genTurn g t e b (yAll P) d (allLoop g t e b P ds)
def anyLoop (g : MG) (t : MT) (e : ME) (b : DEnv) (P : Bool → Prop) : List D → Prop
  | [] => P false
  | d :: ds => genTurn g t e b (yAny P) d (anyLoop g t e b P ds)
@[simp] def eAllG (mi : MI) (g : MG) (t : MT) (e : ME) (vs : List Nat) : ME := fun env P => mi env fun items e1 => allLoop g t e (hide (wipe e1 vs)) (fun k => P (.bl k) e1) items
@[simp] def eAnyG (mi : MI) (g : MG) (t : MT) (e : ME) (vs : List Nat) : ME := fun env P => mi env fun items e1 => anyLoop g t e (hide (wipe e1 vs)) (fun k => P (.bl k) e1) items

@[simp] def eTupleG (mi : MI) (g : MG) (t : MT) (e : ME) (vs : List Nat) : ME := fun env P => mi env fun items e1 => items.length ≤ LN ∧ lcLoop g t e (hide (wipe e1 vs)) (fun acc => P (.tup acc) e1) items []

/-! ### lists that a def changes -/
@[simp] def sSetOwn (i : Nat) (f : MF) : MS := fun E env => f env fun ds e1 => E.nx (e1.set i (some (.own ds)))
@[simp] def sAppend (i : Nat) (e : ME) : MS := fun E env => match env[i]? with
  | some (some (.own _)) => e env fun d e1 => match e1[i]? with
    | some (some (.own ds)) => ds.length < LN ∧ E.nx (e1.set i (some (.own (ds ++ [d]))))
    | _ => False
  | _ => False
/-- x[k] = v -/
@[simp] def sPut (i : Nat) (k v : ME) : MS := fun E env => v env fun y e1 => match e1[i]? with
  | some (some (.own _)) => k e1 fun j e2 => match e2[i]?, j with
    | some (some (.own ds)), .int j => ∃ n, ixN ds.length j = some n ∧ E.nx (e2.set i (some (.own (ds.set n y))))
    | _, _ => False
  | _ => False
@[simp] def sExtend (i : Nat) (e : ME) : MS := fun E env => match env[i]? with
  | some (some (.own _)) => e env fun d e1 => match e1[i]?, d with
    | some (some (.own ds)), .lst es => ds.length + es.length ≤ LN ∧ E.nx (e1.set i (some (.own (ds ++ es))))
    | _, _ => False
  | _ => False
/-- x.pop(k), 0 <= k -/
@[simp] def ePopAt (i : Nat) (e : ME) : ME := fun env P => match env[i]? with
  | some (some (.own _)) => e env fun k e1 => match e1[i]?, k with
    | some (some (.own ds)), .int k => 0 ≤ k ∧ k < 2 ^ 62 ∧ ∃ d, ds[k.toNat]? = some d ∧ P d (e1.set i (some (.own (ds.eraseIdx k.toNat))))
    | _, _ => False
  | _ => False
@[simp] def eOLen (i : Nat) : ME := fun env P => match env[i]? with
  | some (some (.own ds)) => P (.int ds.length) env
  | _ => False
/-- from here on the list is a value like others -/
@[simp] def sFrz (i : Nat) (m : MS) : MS := fun E env => match env[i]? with
  | some (some (.own ds)) => m E (env.set i (some (.val (.lst ds))))
  | _ => m E env
/-- the lists that a def changes, lent as values -/
@[simp] def lend (env : DEnv) : DEnv := env.map fun s => match s with
  | some (.own ds) => some (.val (.lst ds))
  | some (.dic kvs) => some (.val (.dct (kvs.map (·.1)) (kvs.map (·.2))))
  | some (.gdi _) => none
  | s => s
/-! no list within -/
mutual
def noLst : D → Bool
  | .tup xs => noLsts xs
  | .lst _ => false
  | .frz _ => false
  | .dct _ _ => false
  | .gd ks vs => noLsts ks && noLsts vs
  | _ => true
def noLsts : List D → Bool
  | [] => true
  | x :: xs => noLst x && noLsts xs
end
@[simp] def eLend (m : ME) : ME := fun env P => m (lend env) fun d _ => noLst d = true ∧ P d env
@[simp] def tLend (m : MT) : MT := fun env P => m (lend env) fun k _ => P k env
@[simp] def fLend (m : MF) : MF := fun env P => m (lend env) fun ds _ => noLsts ds = true ∧ P ds env
def dstart (n : Nat) (ds : List D) : DEnv := ds.map (fun d => some (.val d)) ++ List.replicate (n - ds.length) none
end DL

set_option Elab.async false
set_option linter.all false
set_option autoImplicit false
set_option maxRecDepth 100000
/-! DLI: induction over loops of data. -/
namespace DL
open PySem (Str)
abbrev dI : Int → D := D.int
abbrev dN (c : Nat) : D := .int (c : Int)
abbrev tI (c : List Int) : D := .tup (c.map D.int)
abbrev tN (r : List Nat) : D := .tup (r.map dN)
theorem loop_ind {g : MG} {body : MS} {E : DEnds} (I : List D → DEnv → Prop) (h0 : ∀ env, I [] env → E.nx env)
    (h1 : ∀ d ds (Kk : DEnv → Prop) env, (∀ e, I ds e → Kk e) → I (d :: ds) env → g d env fun e1 => body { nx := Kk, rt := E.rt, bk := E.nx, ct := Kk } e1) : ∀ ds env, I ds env → loopFor g body E ds env
  | [], env, h => h0 env h
  | d :: ds, env, h => h1 d ds _ env (fun e he => loop_ind I h0 h1 ds e he) h
theorem lc_ind {g : MG} {t : MT} {e : ME} {b : DEnv} {P : List D → Prop} (I : List D → List D → Prop) (h0 : ∀ acc, I [] acc → P acc)
    (h1 : ∀ d ds (Kk : List D → Prop) acc, (∀ a, I ds a → Kk a) → I (d :: ds) acc → g d b fun e1 => t e1 fun k e2 => if k = true then e e2 fun y _ => Kk (acc ++ [y]) else Kk acc) : ∀ ds acc, I ds acc → lcLoop g t e b P ds acc
  | [], acc, h => h0 acc h
  | d :: ds, acc, h => h1 d ds _ acc (fun a ha => lc_ind I h0 h1 ds a ha) h
theorem lc_map {g : MG} {t : MT} {e : ME} {b : DEnv} {P : List D → Prop} (f : D → D) {ds : List D}
    (h1 : ∀ d, d ∈ ds → ∀ (Kk : D → Prop) (Kn : Prop), Kk (f d) → g d b fun e1 => t e1 fun k e2 => if k = true then e e2 fun y _ => Kk y else Kn) (acc : List D) (h : P (acc ++ ds.map f)) : lcLoop g t e b P ds acc := by
  induction ds generalizing acc with
  | nil => simpa [lcLoop] using h
  | cons d ds ih =>
    refine h1 d (List.mem_cons_self ..) (fun y => lcLoop g t e b P ds (acc ++ [y])) _ ?_
    exact ih (fun d hd => h1 d (List.mem_cons_of_mem _ hd)) _ (by simpa using h)
theorem lc_none {g : MG} {t : MT} {e : ME} {b : DEnv} {P : List D → Prop} {ds : List D}
    (h1 : ∀ d, d ∈ ds → ∀ (Kk : D → Prop) (Kn : Prop), Kn → g d b fun e1 => t e1 fun k e2 => if k = true then e e2 fun y _ => Kk y else Kn) (acc : List D) (h : P acc) : lcLoop g t e b P ds acc := by
  induction ds with
  | nil => simpa [lcLoop] using h
  | cons d ds ih => exact h1 d (List.mem_cons_self ..) (fun y => lcLoop g t e b P ds (acc ++ [y])) _ (ih (fun d hd => h1 d (List.mem_cons_of_mem _ hd)))
/-- each element has a property -/
theorem lc_all {g : MG} {t : MT} {e : ME} {b : DEnv} {P : List D → Prop} {α : Type} (f : α → D) (ok : α → Prop) {ds : List D}
    (h1 : ∀ d, d ∈ ds → ∀ (Kk : D → Prop) (Kn : Prop), (∀ x, ok x → Kk (f x)) → g d b fun e1 => t e1 fun k e2 => if k = true then e e2 fun y _ => Kk y else Kn)
    (h : ∀ xs : List α, xs.length = ds.length → (∀ x ∈ xs, ok x) → P (xs.map f)) : lcLoop g t e b P ds [] := by
  refine lc_ind (fun rest acc => (∀ d ∈ rest, d ∈ ds) ∧ ∃ xs : List α, acc = xs.map f ∧ xs.length + rest.length = ds.length ∧ ∀ x ∈ xs, ok x) ?_ ?_ ds [] ⟨fun _ h => h, [], rfl, by simp, by simp⟩
  · rintro acc ⟨_, xs, rfl, hl, ho⟩
    exact h xs (by simpa using hl) ho
  · rintro d rest Kk acc hK ⟨hm, xs, rfl, hl, ho⟩
    refine h1 d (hm d (List.mem_cons_self ..)) (fun y => Kk (xs.map f ++ [y])) _ fun x hx => ?_
    refine hK _ ⟨fun d hd => hm d (List.mem_cons_of_mem _ hd), xs ++ [x], by simp, by simp at hl ⊢; omega, ?_⟩
    intro y hy
    rcases List.mem_append.mp hy with hy | hy
    · exact ho y hy
    · rw [List.mem_singleton.mp hy]; exact hx
theorem while_ind {c : MT} {body : MS} {E : DEnds} (I : Nat → DEnv → Prop)
    (h : ∀ m (Kk : DEnv → Prop) env, (∀ m' e, m' < m → I m' e → Kk e) → I m env → c env fun k e1 => if k = true then body { nx := Kk, rt := E.rt, bk := E.nx, ct := Kk } e1 else E.nx e1) (m : Nat) (env : DEnv) (hI : I m env) : sWhile c body E env := by
  have key : ∀ n m env, m < n → I m env → whileN c body E n env := by
    intro n
    induction n with
    | zero => intro m env hm; omega
    | succ n ih => exact fun m env hm hi => h m _ env (fun m' e h' i' => ih m' e (by omega) i') hi
  exact ⟨m + 1, key (m + 1) m env (by omega) hI⟩
theorem intsD_map (lo : Int) (n : Nat) : intsD lo n = (List.range n).map fun (k : Nat) => D.int (lo + (k : Int)) := by
  induction n generalizing lo with
  | zero => rfl
  | succ n ih =>
    rw [intsD, ih, List.range_succ_eq_map]
    simp only [List.map_cons, List.map_map]
    congr 1
    · simp
    · apply List.map_congr_left; intro a _; simp [Function.comp]; omega
theorem ints0 (n : Nat) : intsD 0 n = (List.range n).map dN := by
  rw [intsD_map]; apply List.map_congr_left; intro a _; simp
theorem atI_nat {α : Type} (xs : List α) (k : Nat) : atI xs (k : Int) = xs[k]? := by
  unfold atI ixN
  by_cases h : k < xs.length
  · rw [if_pos (by omega), if_pos (by omega)]; simp
  · rw [if_pos (by omega), if_neg (by omega)]; simp; omega
theorem mem_intsD {n : Nat} {d : D} (h : d ∈ intsD 0 n) : ∃ k, k < n ∧ d = dN k := by
  rw [ints0] at h
  obtain ⟨k, hk, rfl⟩ := List.mem_map.mp h
  exact ⟨k, List.mem_range.mp hk, rfl⟩
mutual
theorem peq_refl : (n : Nat) → (d : D) → plain n d = true → peq d d = true
  | _, .non, _ => rfl
  | _, .bl b, _ => by cases b <;> rfl
  | _, .int i, _ => by simp [peq]
  | _, .str x, _ => by simp [peq]
  | 0, .tup xs, h => by simp [plain] at h
  | n + 1, .tup xs, h => by simp only [plain] at h; simp only [peq]; exact peqs_refl n xs h
  | 0, .lst xs, h => by simp [plain] at h
  | n + 1, .lst xs, h => by simp only [plain] at h; simp only [peq]; exact peqs_refl n xs h
  | _, .dct _ _, h => by simp [plain] at h
  | _, .pool, h => by simp [plain] at h
  | _, .frz _, h => by simp [plain] at h
  | _, .rnk _, h => by simp [plain] at h
  | _, .gd _ _, h => by simp [plain] at h
theorem peqs_refl : (n : Nat) → (ds : List D) → plains n ds = true → peqs ds ds = true
  | _, [], _ => rfl
  | n, x :: xs, h => by
    simp only [plains, Bool.and_eq_true] at h
    simp only [peqs, Bool.and_eq_true]
    exact ⟨peq_refl n x h.1, peqs_refl n xs h.2⟩
end
mutual
theorem plain_mono : (n m : Nat) → n ≤ m → (d : D) → plain n d = true → plain m d = true
  | _, _, _, .non, _ => by simp [plain]
  | _, _, _, .bl b, _ => by simp [plain]
  | _, _, _, .int i, _ => by simp [plain]
  | n, m, _, .str x, h => by simp only [plain] at h ⊢; exact h
  | 0, _, _, .tup xs, h => by simp [plain] at h
  | n + 1, 0, l, .tup xs, h => by omega
  | n + 1, m + 1, l, .tup xs, h => by simp only [plain] at h ⊢; exact plains_mono n m (by omega) xs h
  | 0, _, _, .lst xs, h => by simp [plain] at h
  | n + 1, 0, l, .lst xs, h => by omega
  | n + 1, m + 1, l, .lst xs, h => by simp only [plain] at h ⊢; exact plains_mono n m (by omega) xs h
  | _, _, _, .dct _ _, h => by simp [plain] at h
  | _, _, _, .pool, h => by simp [plain] at h
  | _, _, _, .frz _, h => by simp [plain] at h
  | _, _, _, .rnk _, h => by simp [plain] at h
  | _, _, _, .gd _ _, h => by simp [plain] at h
theorem plains_mono : (n m : Nat) → n ≤ m → (ds : List D) → plains n ds = true → plains m ds = true
  | _, _, _, [], _ => by simp [plains]
  | n, m, l, x :: xs, h => by
    simp only [plains, Bool.and_eq_true] at h ⊢
    exact ⟨plain_mono n m l x h.1, plains_mono n m l xs h.2⟩
end
theorem plains_all (n : Nat) : (ds : List D) → (∀ d ∈ ds, plain n d = true) → plains n ds = true
  | [], _ => by simp [plains]
  | d :: ds, h => by
    simp only [plains, Bool.and_eq_true]
    exact ⟨h d (List.mem_cons_self ..), plains_all n ds fun d' hd => h d' (List.mem_cons_of_mem _ hd)⟩
theorem plains_mem (n : Nat) : (ds : List D) → plains n ds = true → ∀ d ∈ ds, plain n d = true
  | d :: ds, h, x, hx => by
    simp only [plains, Bool.and_eq_true] at h
    rcases List.mem_cons.mp hx with rfl | hx
    · exact h.1
    · exact plains_mem n ds h.2 x hx
@[simp] theorem peq_ii (i j : Int) : peq (.int i) (.int j) = (i == j) := by simp [peq]
@[simp] theorem peq_bb (i j : Bool) : peq (.bl i) (.bl j) = (i == j) := by simp [peq]
@[simp] theorem plain_int (n : Nat) (i : Int) : plain n (.int i) = true := by simp [plain]
@[simp] theorem plain_bl (n : Nat) (i : Bool) : plain n (.bl i) = true := by simp [plain]
@[simp] theorem plain_non (n : Nat) : plain n .non = true := by simp [plain]
/-! what _law_same tells equal: plain, no list longer than LN -/
mutual
def small : Nat → D → Bool
  | _, .non => true
  | _, .bl _ => true
  | _, .int _ => true
  | _, .str x => x.cps.all (· < 0x110000)
  | 0, .tup _ => false
  | n + 1, .tup xs => decide (xs.length ≤ LN) && smalls n xs
  | 0, .lst _ => false
  | n + 1, .lst xs => decide (xs.length ≤ LN) && smalls n xs
  | _, .dct _ _ => false
  | _, .pool => false
  | _, .frz _ => false
  | _, .rnk _ => false
  | _, .gd _ _ => false
def smalls : Nat → List D → Bool
  | _, [] => true
  | n, x :: xs => small n x && smalls n xs
end
theorem smalls_mem (n : Nat) : (ds : List D) → smalls n ds = true → ∀ d ∈ ds, small n d = true
  | d :: ds, h, x, hx => by
    simp only [smalls, Bool.and_eq_true] at h
    rcases List.mem_cons.mp hx with rfl | hx
    · exact h.1
    · exact smalls_mem n ds h.2 x hx
theorem smalls_all (n : Nat) : (ds : List D) → (∀ d ∈ ds, small n d = true) → smalls n ds = true
  | [], _ => by simp [smalls]
  | d :: ds, h => by
    simp only [smalls, Bool.and_eq_true]
    exact ⟨h d (List.mem_cons_self ..), smalls_all n ds fun d' hd => h d' (List.mem_cons_of_mem _ hd)⟩
@[simp] theorem small_int (n : Nat) (i : Int) : small n (.int i) = true := by simp [small]
@[simp] theorem small_bl (n : Nat) (i : Bool) : small n (.bl i) = true := by simp [small]
@[simp] theorem small_non (n : Nat) : small n .non = true := by simp [small]
theorem small_tup (n : Nat) {xs : List D} (hl : xs.length ≤ LN) (h : ∀ d ∈ xs, small n d = true) : small (n + 1) (.tup xs) = true := by
  simp only [small, hl, decide_true, Bool.true_and]; exact smalls_all n xs h
theorem small_lst (n : Nat) {xs : List D} (hl : xs.length ≤ LN) (h : ∀ d ∈ xs, small n d = true) : small (n + 1) (.lst xs) = true := by
  simp only [small, hl, decide_true, Bool.true_and]; exact smalls_all n xs h
mutual
theorem small_mono : (n m : Nat) → n ≤ m → (d : D) → small n d = true → small m d = true
  | _, _, _, .non, _ => by simp
  | _, _, _, .bl b, _ => by simp
  | _, _, _, .int i, _ => by simp
  | n, m, _, .str x, h => by simp only [small] at h ⊢; exact h
  | 0, _, _, .tup xs, h => by simp [small] at h
  | n + 1, 0, l, .tup xs, h => by omega
  | n + 1, m + 1, l, .tup xs, h => by simp only [small, Bool.and_eq_true] at h ⊢; exact ⟨h.1, smalls_mono n m (by omega) xs h.2⟩
  | 0, _, _, .lst xs, h => by simp [small] at h
  | n + 1, 0, l, .lst xs, h => by omega
  | n + 1, m + 1, l, .lst xs, h => by simp only [small, Bool.and_eq_true] at h ⊢; exact ⟨h.1, smalls_mono n m (by omega) xs h.2⟩
  | _, _, _, .dct _ _, h => by simp [small] at h
  | _, _, _, .pool, h => by simp [small] at h
  | _, _, _, .frz _, h => by simp [small] at h
  | _, _, _, .rnk _, h => by simp [small] at h
  | _, _, _, .gd _ _, h => by simp [small] at h
theorem smalls_mono : (n m : Nat) → n ≤ m → (ds : List D) → smalls n ds = true → smalls m ds = true
  | _, _, _, [], _ => by simp [smalls]
  | n, m, l, x :: xs, h => by
    simp only [smalls, Bool.and_eq_true] at h ⊢
    exact ⟨small_mono n m l x h.1, smalls_mono n m l xs h.2⟩
end
mutual
theorem small_plain : (n : Nat) → (d : D) → small n d = true → plain n d = true
  | _, .non, _ => by simp
  | _, .bl b, _ => by simp
  | _, .int i, _ => by simp
  | n, .str x, h => by simp only [small] at h; simp only [plain]; exact h
  | 0, .tup xs, h => by simp [small] at h
  | n + 1, .tup xs, h => by simp only [small, Bool.and_eq_true] at h; simp only [plain]; exact smalls_plains n xs h.2
  | 0, .lst xs, h => by simp [small] at h
  | n + 1, .lst xs, h => by simp only [small, Bool.and_eq_true] at h; simp only [plain]; exact smalls_plains n xs h.2
  | _, .dct _ _, h => by simp [small] at h
  | _, .pool, h => by simp [small] at h
  | _, .frz _, h => by simp [small] at h
  | _, .rnk _, h => by simp [small] at h
  | _, .gd _ _, h => by simp [small] at h
theorem smalls_plains : (n : Nat) → (ds : List D) → smalls n ds = true → plains n ds = true
  | _, [], _ => by simp [plains]
  | n, x :: xs, h => by
    simp only [smalls, Bool.and_eq_true] at h
    simp only [plains, Bool.and_eq_true]
    exact ⟨small_plain n x h.1, smalls_plains n xs h.2⟩
end
theorem intsD_length (lo : Int) (n : Nat) : (intsD lo n).length = n := by rw [intsD_map]; simp
theorem cut_take {α : Type} (xs : List α) (k : Nat) : cut xs none (some (k : Int)) = xs.take k := by
  unfold cut sIx
  simp only [List.drop_zero, Nat.sub_zero]
  rw [if_neg (by omega), Int.toNat_natCast, List.take_eq_take_iff]; omega
theorem cut_drop {α : Type} (xs : List α) (k : Nat) : cut xs (some (k : Int)) none = xs.drop k := by
  unfold cut sIx
  simp only
  rw [if_neg (by omega), Int.toNat_natCast]
  by_cases h : k ≤ xs.length
  · rw [Nat.min_eq_left h, List.take_of_length_le]; simp
  · rw [List.drop_of_length_le (by omega), List.drop_of_length_le (by omega)]; simp
theorem cut_take' {α : Type} (xs : List α) (k : Int) (h : 0 ≤ k) : cut xs none (some k) = xs.take k.toNat := by
  obtain ⟨n, rfl⟩ := Int.eq_ofNat_of_zero_le h; exact cut_take xs n
theorem cut_drop' {α : Type} (xs : List α) (k : Int) (h : 0 ≤ k) : cut xs (some k) none = xs.drop k.toNat := by
  obtain ⟨n, rfl⟩ := Int.eq_ofNat_of_zero_le h; exact cut_drop xs n
theorem plain_tI (n : Nat) (c : List Int) : plain (n + 1) (tI c) = true := by
  simp only [plain]; exact plains_all n _ (by simp [plain_int])
theorem plain_tN (n : Nat) (c : List Nat) : plain (n + 1) (tN c) = true := by
  simp only [plain]; exact plains_all n _ (by simp [plain_int])
/-! ### the pool of draws, read and written -/
abbrev poolD (ns : List Int) (i v c s : Int) : D := .lst [.lst (ns.map D.int), .int i, .int v, .int c, .int s]
@[simp] def intsOnly (env : DEnv) : DEnv := env.map fun s => match s with
  | some (.val (.int i)) => some (.val (.int i))
  | _ => none
/-- e reads the pool at slot i; an int or a truth value comes of it -/
@[simp] def eRd (i : Nat) (m : ME) : ME := fun env P => match env[i]? with
  | some (some (.val .pool)) => ∀ (ns : List Int) (k v c s : Int), 0 ≤ k → m ((intsOnly env).set i (some (.val (poolD ns k v c s)))) fun d _ => match d with
    | .int n => P (.int n) env
    | .bl b => P (.bl b) env
    | _ => False
  | _ => False
@[simp] def tRd (i : Nat) (m : MT) : MT := fun env P => match env[i]? with
  | some (some (.val .pool)) => ∀ (ns : List Int) (k v c s : Int), 0 ≤ k → m ((intsOnly env).set i (some (.val (poolD ns k v c s)))) fun b _ => P b env
  | _ => False
@[simp] def sPool (i k : Nat) (m : ME) : MS := fun E env => m env fun d e1 => match e1[i]?, d with
  | some (some (.val .pool)), .int n => (1 ≤ k ∧ k ≤ 4 ∧ (k = 1 → 0 ≤ n)) ∧ E.nx e1
  | _, _ => False
/-- if c: name = e; rest, where c and e read the pool -/
@[simp] def sRdIf (i j : Nat) (mc : MT) (me : ME) (m : MS) : MS := fun E env => match env[i]? with
  | some (some (.val .pool)) => ∀ (ns : List Int) (k v c s : Int), 0 ≤ k → mc ((intsOnly env).set i (some (.val (poolD ns k v c s)))) fun b e1 =>
    if b = true then me e1 fun d _ => match d with
      | .int n => m E (env.set j (some (.val (.int n))))
      | _ => False
    else E.nx env
  | _ => False

def F__law_pool : FD := fun ds P => ∃ ns : List Int, ds = [.frz ns] ∧ ∀ salt : Int, P (poolD ns 0 0 0 salt)
end DL

set_option Elab.async false
set_option linter.all false
set_option autoImplicit false
set_option maxRecDepth 100000
set_option maxHeartbeats 1000000
/-! DDo: dicts by values; an empty one is of both kinds. -/
namespace DO
open PySem PySem.Spec PyProof.Rows L2
section
variable {X : Cx} {pins : List (Addr × Obj)} {σ : L2.St} {H : Hp} {s : Shared} {a : Addr}
theorem reT (I : L2.Inv X pins σ H s) (e : H a = some (.dK [])) : L2.Inv X pins σ (upd H a (.dT [])) s := by
  obtain ⟨z, hd, vs, rel, o, es, ep, h1, h2, h3, h4, h5, h6⟩ := dk_of I.hok e
  cases rel
  have h0 : es.toList = [] := by
    generalize es.toList = l at h5
    cases h5; rfl
  exact I.write (x := a) (e := a) (t' := s.toks) (by rw [e]; trivial) (.inl rfl) (fun b u _ h => h) ⟨o, h1⟩ (show ObjOk X.prog X.w _ _ _ (.dT []) from ⟨Nat.zero_le _, hd, [], .nil, o, es, ep, h1, h2, h3, h0, List.nodup_nil⟩)
theorem reK (I : L2.Inv X pins σ H s) (e : H a = some (.dT [])) : L2.Inv X pins σ (upd H a (.dK [])) s := by
  obtain ⟨z, hd, xs, rel, o, es, ep, h1, h2, h3, h4, h5⟩ := (show ObjOk X.prog X.w H s.heap a (.dT []) from I.hok a _ e)
  cases rel
  have h0 : es.toList = [] := h4
  refine I.write (x := a) (e := a) (t' := s.toks) (by rw [e]; trivial) (.inl rfl) (fun b u _ h => h) ⟨o, h1⟩ (show ObjOk X.prog X.w _ _ _ (.dK []) from ⟨Nat.zero_le _, hd, [], .nil, o, es, ep, h1, h2, h3, fun x hx => ?_, ?_, List.nodup_nil⟩)
  · have : x ∈ es.toList := Array.mem_toList_iff.mpr hx
    rw [h0] at this; cases this
  · rw [h0]; exact .nil
theorem upd_back {o o' : HO} (e : H a = some o) : upd (upd H a o') a o = H := by
  rw [upd_upd]
  funext b
  by_cases hb : b = a
  · rw [hb, upd_same, e]
  · rw [upd_ne hb]
def DGetX (H : Hp) (a : Addr) (y : V) (o : Option V) : Prop :=
  DGet H a y o ∨ (o = none ∧ ((H a = some (.dK []) ∧ ∃ (ks : List L2.Key) (b : Addr), y = .ref b ∧ H b = some (.tup (ks.map kV))) ∨ (H a = some (.dT []) ∧ ∃ k, y = kV k)))
theorem viaX {y : V} {o : Option V} {G : Prop} (I : L2.Inv X pins σ H s) (g : DGetX H a y o) (L : ∀ H', L2.Inv X pins σ H' s → DGet H' a y o → (∀ s', L2.Inv X pins σ H' s' → L2.Inv X pins σ H s') → G) : G := by
  rcases g with g | ⟨rfl, ⟨e, ks, b, rfl, eb⟩ | ⟨e, k, rfl⟩⟩
  · exact L H I g fun _ z => z
  · have hb : b ≠ a := fun z => by rw [z, e] at eb; cases eb
    refine L (upd H a (.dT [])) (reT I e) ?_ fun s' I' => ?_
    · exact DGet.t (kvs := []) upd_same (by rw [upd_ne hb]; exact eb)
    · have := reK I' upd_same
      rw [upd_back e] at this
      exact this
  · refine L (upd H a (.dK [])) (reK I e) (DGet.k (kvs := []) upd_same) fun s' I' => ?_
    have := reT I' upd_same
    rw [upd_back e] at this
    exact this
def DPutX (H : Hp) (a : Addr) (y v : V) (H' : Hp) : Prop := DPut H a y v H' ∨ (∃ (ks : List L2.Key) (b : Addr), H a = some (.dK []) ∧ y = .ref b ∧ H b = some (.tup (ks.map kV)) ∧ H' = upd H a (.dT [(ks, v)])) ∨ ∃ k : L2.Key, H a = some (.dT []) ∧ y = kV k ∧ H' = upd H a (.dK [(k, v)])
def rInX (neg : Bool) : R2 := fun x y H Q => ∃ a o, y = .ref a ∧ DGetX H a x o ∧ Q (.bl (if neg = true then !o.isSome else o.isSome)) H
theorem op_inX (hu : X.A.units + 1 < cLine) : OpR X (compareOp .In) (rInX false) := by
  intro pins s σ H x y v u Q I rx ry ⟨a, o, ey, g, q⟩
  subst ey
  obtain rfl : u = Value.ref a := ry
  exact viaX I g fun H' I' g' back => d_in hu I' g' rx fun s3 I3 => ⟨.bl o.isSome, H, back _ I3, rfl, q⟩
theorem op_notInX (hu : X.A.units + 1 < cLine) : OpR X (compareOp .NotIn) (rInX true) := by
  intro pins s σ H x y v u Q I rx ry ⟨a, o, ey, g, q⟩
  subst ey
  obtain rfl : u = Value.ref a := ry
  exact viaX I g fun H' I' g' back => d_notIn hu I' g' rx fun s3 I3 => ⟨.bl (!o.isSome), H, back _ I3, rfl, q⟩
def rIxX : R2 := fun x y H Q => ∃ a v, x = .ref a ∧ DGet H a y (some v) ∧ Q v H
theorem ix_X (hu : X.A.units + 1 < cLine) : IxR X rIxX := by
  intro value slice pins s σ H x y v u Q I rx ry ⟨a, r, ex, g, q⟩ hs
  subst ex
  obtain rfl : v = Value.ref a := rx
  exact tail_any (dict_typeIs I g) PySem.F.slot_dict_getitem.lookup (d_getItem hu I g ry fun w' s3 I3 rw' => ⟨r, H, I3, rw', q⟩) hs
def rSetX : V → V → V → Hp → (Hp → Prop) → Prop := fun o i v H Q => ∃ p H', o = .ref p ∧ DPutX H p i v H' ∧ Q H'
theorem set_X (hu : X.A.units + 1 < cLine) : PSet X rSetX := by
  intro pins s σ H o i v ov iv u Q I ro ri rv ⟨p, H', eo, g, q⟩
  subst eo
  obtain rfl : ov = Value.ref p := ro
  rcases g with g | ⟨ks, b, e, rfl, eb, rfl⟩ | ⟨k, e, rfl, rfl⟩
  rotate_left 2
  · refine d_setItem (H' := upd H p (.dK [(k, v)])) hu (reK I e) ?_ ri rv fun s3 I3 => ⟨_, I3, q⟩
    have := DPut.k (v := v) (kvs := []) (k := k) (H := upd H p (.dK [])) (a := p) upd_same (by decide)
    rw [upd_upd] at this
    exact this
  · exact d_setItem hu I g ri rv fun s3 I3 => ⟨H', I3, q⟩
  · have hb : b ≠ p := fun z => by rw [z, e] at eb; cases eb
    refine d_setItem (H' := upd H p (.dT [(ks, v)])) hu (reT I e) ?_ ri rv fun s3 I3 => ⟨_, I3, q⟩
    have := DPut.t (v := v) (kvs := []) (k := ks) (H := upd H p (.dT [])) (a := p) (b := b) upd_same (by rw [upd_ne hb]; exact eb) (by decide)
    rw [upd_upd] at this
    exact this
def rGetX : V → List V → Hp → VK → Prop := fun x xs H Q => ∃ a y z o, x = .ref a ∧ xs = [y, z] ∧ DGetX H a y o ∧ Q (o.getD z) H
theorem mt_getX (hu : X.A.units + 1 < cLine) : MtR X "dict.get" rGetX := by
  intro pins s σ H x xs v us Q I rx rs ⟨a, y, z, o, ex, es, g, q⟩
  subst ex es
  obtain rfl : v = Value.ref a := rx
  cases rs with
  | cons r1 rs =>
    cases rs with
    | cons r2 rs =>
      cases rs
      exact viaX I g fun H' I' g' back => d_get2 hu I' g' r1 r2 fun w' s3 I3 rw' => ⟨_, H, back _ I3, rw', q⟩
def rLenX : List V → Hp → VK → Prop := fun xs H Q => ∃ a, xs = [V.ref a] ∧ ((∃ kvs, H a = some (.dK kvs) ∧ Q (.int kvs.length) H) ∨ ∃ kvs, H a = some (.dT kvs) ∧ Q (.int kvs.length) H)
def rSortedX : List V → Hp → VK → Prop := fun xs H Q => ∃ (a : Addr) (ks : List Int), xs = [V.ref a] ∧ ((∃ kvs, H a = some (.dK kvs) ∧ kvs.map (·.1) = ks.map Sum.inl) ∨ (H a = some (.dT []) ∧ ks = [])) ∧ ks.length < 64 ∧
  ∀ (ys : List Int) (p : Addr), ys.Perm ks → ys.Pairwise (· ≤ ·) → H p = none → Q (.ref p) (upd H p (.lst (ys.map V.int)))
theorem call_sortedX (hc : X.calm = true) : CallR X (.builtin "sorted") rSortedX := by
  intro pins s σ H xs us Q I r ⟨a, ks, ex, g, h64, q⟩
  subst ex
  rcases g with ⟨kvs, e, ek⟩ | ⟨e, rfl⟩
  · exact call_sortedDI hc pins s σ H _ us Q I r ⟨a, kvs, ks, rfl, .inl e, ek, h64, q⟩
  · refine thn (call_sortedDI hc pins s σ (upd H a (.dK [])) _ us (fun v H1 => H1 a = some (.dK []) ∧ Q v (upd H1 a (.dT []))) (reK I e) r ⟨a, [], [], rfl, .inl upd_same, rfl, by decide, fun ys p h1 h2 hp => ?_⟩) ?_
    · have hpa : p ≠ a := fun z => by rw [z, upd_same] at hp; cases hp
      have hap : a ≠ p := fun z => hpa z.symm
      rw [upd_ne hpa] at hp
      refine ⟨by rw [upd_ne hap]; exact upd_same, ?_⟩
      have e1 : upd (upd (upd H a (.dK [])) p (.lst (ys.map V.int))) a (.dT []) = upd H p (.lst (ys.map V.int)) := by
        funext b
        by_cases hb : b = a
        · rw [hb, upd_same, upd_ne hap, e]
        · rw [upd_ne hb]
          by_cases hbp : b = p
          · rw [hbp, upd_same, upd_same]
          · rw [upd_ne hbp, upd_ne hbp, upd_ne hb]
      rw [e1]
      exact q ys p h1 h2 hp
    · rintro v s1 ⟨w, H1, I1, rw1, e1, q1⟩
      exact ⟨w, _, reT I1 e1, rw1, q1⟩
end
end DO

set_option Elab.async false
set_option linter.all false
set_option autoImplicit false
set_option maxRecDepth 100000
set_option maxHeartbeats 1000000
/-! GD0: dicts whose keys are tuples, of any depth (to 8), in the hand layer. -/
namespace GD
open PySem PySem.Spec PyProof.Rows L2
abbrev GM := List (NestedKey × Addr × V)
def RelX : GM → List (NestedKey × Addr × Value) → Prop := Paired fun p q => p.1 = q.1 ∧ p.2.1 = q.2.1 ∧ RelV p.2.2 q.2.2
/-- the hash is the same in every world: no text within -/
def Free (k : NestedKey) : Prop := ∀ w w' : World, k.hash w = k.hash w'
/-- what the dict at a holds -/
def gphi (a : Addr) (m : GM) (h : Heap) : Prop :=
  (a == sysModules) = false ∧ m.length ≤ sizeLine ∧ ∃ xs, RelX m xs ∧ ∃ o es ep, h.get? a = some o ∧ o.ExactDict ∧ o.data = .dict es ep ∧ (∀ (P : Program) (w : World), es.toList = xs.map (entryOfKey (nestedKind P w))) ∧ (xs.map (·.1)).Nodup
def gO (a : Addr) (m : GM) : HO := .ext (gphi a m)
theorem g_ok {P : Program} {w : World} {H : Hp} {h : Heap} {a : Addr} {m : GM} (x : gphi a m h) : ObjOk P w H h a (gO a m) :=
  ⟨x, let ⟨_, _, _, _, o, _, _, e, _⟩ := x; ⟨o, e⟩, fun h1 h2 ⟨z1, z2, xs, r, o, es, ep, e, rest⟩ k => ⟨z1, z2, xs, r, o, es, ep, k o e, rest⟩⟩
/-! ### keys as data -/
mutual
def nkP : PyData → Option NestedKey
  | .none => some .none
  | .bool b => some (.num (if b = true then 1 else 0))
  | .int i => some (.num i)
  | .tuple ds => (nkPs ds).map .tup
  | _ => none
def nkPs : List PyData → Option (List NestedKey)
  | [] => some []
  | d :: ds => match nkP d, nkPs ds with
    | some k, some ks => some (k :: ks)
    | _, _ => none
end
mutual
theorem nested_reads {h : Heap} : ∀ (d : PyData) (k : NestedKey) (u : Value) (as : List Addr), nkP d = some k → Reads h u d as → NestedIs h k u
  | .none, _, _, _, e, r => by
    simp only [nkP] at e; cases e; cases r; exact .none
  | .bool b, _, _, _, e, r => by
    simp only [nkP] at e; cases e; cases r; exact .bool rfl
  | .int i, _, _, _, e, r => by
    simp only [nkP] at e; cases e; cases r; exact .int _ _
  | .tuple ds, k, _, _, e, r => by
    simp only [nkP] at e
    obtain ⟨ks, e1, rfl⟩ := Option.map_eq_some_iff.mp e
    cases r with
    | tuple h1 h2 h3 h4 => exact .tup h1 h2 h3 (nested_readsAll ds ks _ _ e1 h4)
  | .str _, _, _, _, e, _ => by simp [nkP] at e
  | .list _, _, _, _, e, _ => by simp [nkP] at e
  | .dict _, _, _, _, e, _ => by simp [nkP] at e
theorem nested_readsAll {h : Heap} : ∀ (ds : List PyData) (ks : List NestedKey) (us : List Value) (as : List Addr), nkPs ds = some ks → ReadsAll h us ds as → NestedAll h ks us
  | [], _, _, _, e, r => by
    simp only [nkPs] at e; cases e; cases r; exact .nil
  | d :: ds, ks, _, _, e, r => by
    cases r with
    | cons r1 r2 =>
      simp only [nkPs] at e
      split at e
      · rename_i k ks' e1 e2
        cases e
        exact .cons (nested_reads d k _ _ e1 r1) (nested_readsAll ds ks' _ _ e2 r2)
      · cases e
end
mutual
theorem free_nk : ∀ (d : PyData) (k : NestedKey), nkP d = some k → Free k
  | .none, _, e => by simp only [nkP] at e; cases e; exact fun _ _ => rfl
  | .bool _, _, e => by simp only [nkP] at e; cases e; exact fun _ _ => rfl
  | .int _, _, e => by simp only [nkP] at e; cases e; exact fun _ _ => rfl
  | .tuple ds, k, e => by
    simp only [nkP] at e
    obtain ⟨ks, e1, rfl⟩ := Option.map_eq_some_iff.mp e
    have h := free_nks ds ks e1
    intro w w'
    simp only [NestedKey.hash, h w w']
  | .str _, _, e => by simp [nkP] at e
  | .list _, _, e => by simp [nkP] at e
  | .dict _, _, e => by simp [nkP] at e
theorem free_nks : ∀ (ds : List PyData) (ks : List NestedKey), nkPs ds = some ks → ∀ w w' : World, NestedKey.hashes w ks = NestedKey.hashes w' ks
  | [], _, e => by simp only [nkPs] at e; cases e; exact fun _ _ => rfl
  | d :: ds, ks, e => by
    simp only [nkPs] at e
    split at e
    · rename_i k ks' e1 e2
      cases e
      intro w w'
      simp only [NestedKey.hashes, free_nk d k e1 w w', free_nks ds ks' e2 w w']
    · cases e
end
theorem entry_free {P P' : Program} {w w' : World} {x : NestedKey × Addr × Value} (h : Free x.1) : entryOfKey (nestedKind P w) x = entryOfKey (nestedKind P' w') x := by
  show (⟨x.1.hash w, .ref x.2.1, x.2.2⟩ : DictEntry) = ⟨x.1.hash w', .ref x.2.1, x.2.2⟩
  rw [h w w']
/-- y is such a key, at an address -/
def KeyH (K : PySem.W.Frag) (H : Hp) (y : V) (k : NestedKey) : Prop := ∃ d, Dp K H y d ∧ nkP d = some k ∧ k.depth ≤ 8
def GKeys (K : PySem.W.Frag) (H : Hp) (m : GM) : Prop := ∀ p ∈ m, KeyH K H (.ref p.2.1) p.1
def atM (m : GM) (k : NestedKey) : Option V := (m.find? fun x => decide (x.1 = k)).map (·.2.2)
def putM (m : GM) (k : NestedKey) (b : Addr) (v : V) : GM := if (atM m k).isSome = true then m.map (fun x => if x.1 = k then (x.1, x.2.1, v) else x) else m ++ [(k, b, v)]
theorem RelX.val {m : GM} {xs : List (NestedKey × Addr × Value)} (r : RelX m xs) (k : NestedKey) : RelO (atM m k) ((atKey xs k).map (·.2)) := by
  induction r with
  | nil => exact trivial
  | @cons p q m xs h t ih =>
    unfold atM atKey at ih ⊢
    rw [List.find?_cons, List.find?_cons]
    by_cases e : p.1 = k
    · rw [decide_eq_true e, decide_eq_true (h.1 ▸ e)]
      exact h.2.2
    · rw [decide_eq_false e, decide_eq_false (fun z => e (h.1.trans z))]
      exact ih
theorem RelX.map {m : GM} {xs : List (NestedKey × Addr × Value)} (r : RelX m xs) {f : NestedKey × Addr × V → NestedKey × Addr × V} {g : NestedKey × Addr × Value → NestedKey × Addr × Value}
    (h : ∀ p q, (p.1 = q.1 ∧ p.2.1 = q.2.1 ∧ RelV p.2.2 q.2.2) → ((f p).1 = (g q).1 ∧ (f p).2.1 = (g q).2.1 ∧ RelV (f p).2.2 (g q).2.2)) : RelX (m.map f) (xs.map g) := by
  induction r with
  | nil => exact .nil
  | cons h1 t ih => exact .cons (h _ _ h1) ih
theorem RelX.app {m m' : GM} {xs xs' : List (NestedKey × Addr × Value)} (r : RelX m xs) (r' : RelX m' xs') : RelX (m ++ m') (xs ++ xs') := by
  induction r with
  | nil => exact r'
  | cons h1 t ih => exact .cons h1 ih
theorem RelO_some {o : Option V} {u : Option Value} (r : RelO o u) : o.isSome = u.isSome := r.isSome_eq
theorem RelX.put {m : GM} {xs : List (NestedKey × Addr × Value)} (r : RelX m xs) (k : NestedKey) (b : Addr) {v : V} {u : Value} (rv : RelV v u) : RelX (putM m k b v) (storedH xs k b u) := by
  have e := RelO_some (r.val k)
  rw [Option.isSome_map] at e
  unfold putM storedH
  by_cases h : (atM m k).isSome = true
  · rw [if_pos h, if_pos (by rw [← e]; exact h)]
    refine r.map fun p q ⟨h1, h2, h3⟩ => ?_
    unfold putAt
    by_cases hk : p.1 = k
    · rw [if_pos hk, if_pos (h1 ▸ hk)]
      exact ⟨h1, h2, rv⟩
    · rw [if_neg hk, if_neg (fun z => hk (h1.trans z))]
      exact ⟨h1, h2, h3⟩
  · rw [if_neg h, if_neg (by rw [← e]; exact h)]
    exact r.app (.cons ⟨rfl, rfl, rv⟩ .nil)
theorem putM_len (m : GM) (k : NestedKey) (b : Addr) (v : V) : (putM m k b v).length ≤ m.length + 1 := by
  unfold putM
  split
  · simp
  · simp
section
variable {X : Cx} {pins : List (Addr × Obj)} {σ : L2.St} {H : Hp} {s : Shared} {a b : Addr} {m : GM} {k : NestedKey} {A : Around} {E : Value → Shared → Prop}
theorem key_is (I : Inv X pins σ H s) (h : KeyH X.K H (.ref b) k) : (nestedKind X.prog X.w).is s.heap k b := by
  obtain ⟨d, h1, h2, h3⟩ := h
  obtain ⟨as, r⟩ := Dp.reads I d (.ref b) (.ref b) h1 rfl
  exact ⟨nested_reads d k _ _ h2 r, h3⟩
theorem keys_is (I : Inv X pins σ H s) (hk : GKeys X.K H m) {xs : List (NestedKey × Addr × Value)} (r : RelX m xs) : ∀ x ∈ xs, (nestedKind X.prog X.w).is s.heap x.1 x.2.1 := by
  induction r with
  | nil => intro x hx; cases hx
  | @cons p q m xs h t ih =>
    intro x hx
    rcases List.mem_cons.mp hx with rfl | hx
    · rw [← h.1, ← h.2.1]
      exact key_is I (hk p (List.mem_cons_self ..))
    · exact ih (fun p hp => hk p (List.mem_cons_of_mem _ hp)) x hx
/-- the dict at a: of its own kind, or empty, or locked -/
inductive GAt (H : Hp) (a : Addr) (m : GM) : Prop
  | own : H a = some (gO a m) → GAt H a m
  | frz (o : Obj) : H a = some (.frz o (gO a m)) → GAt H a m
theorem keys_free (hk : GKeys X.K H m) {xs : List (NestedKey × Addr × Value)} (r : RelX m xs) : ∀ x ∈ xs, Free x.1 := by
  induction r with
  | nil => intro x hx; cases hx
  | @cons p q m xs h t ih =>
    intro x hx
    rcases List.mem_cons.mp hx with rfl | hx
    · rw [← h.1]
      obtain ⟨d, _, h2, _⟩ := hk p (List.mem_cons_self ..)
      exact free_nk d _ h2
    · exact ih (fun p hp => hk p (List.mem_cons_of_mem _ hp)) x hx
theorem stored_free {xs : List (NestedKey × Addr × Value)} (hx : ∀ x ∈ xs, Free x.1) (hk : Free k) (u : Value) : ∀ x ∈ storedH xs k b u, Free x.1 := by
  intro x h
  unfold storedH at h
  split at h
  · obtain ⟨y, hy, rfl⟩ := List.mem_map.mp h
    unfold putAt
    split
    · exact hx y hy
    · exact hx y hy
  · rcases List.mem_append.mp h with h | h
    · exact hx x h
    · rw [List.mem_singleton.mp h]; exact hk
theorem g_of (I : Inv X pins σ H s) (g : GAt H a m) : gphi a m s.heap := by
  cases g with
  | own e => exact (I.hok a _ e).1
  | frz o e => exact (I.hok a _ e).2.1
theorem g_dict (I : Inv X pins σ H s) (g : GAt H a m) (hk : GKeys X.K H m) : (a == sysModules) = false ∧ m.length ≤ sizeLine ∧ ∃ xs, RelX m xs ∧ s.heap.DictOfH (nestedKind X.prog X.w) a xs := by
  obtain ⟨z, hl, xs, r, o, es, ep, h1, h2, h3, h4, h5⟩ := g_of I g
  exact ⟨z, hl, xs, r, o, es, ep, h1, h2, h3, h4 X.prog X.w, keys_is I hk r, h5⟩
theorem g_getItem {v : V} {Q : Value → Shared → Prop} (hu : A.units + 20 < cLine) (I : Inv X pins σ H s) (g : GAt H a m) (hk : GKeys X.K H m) (hy : KeyH X.K H (.ref b) k) (hv : atM m k = some v) (h : ∀ w' s', Inv X pins σ H s' → RelV v w' → Q w' s') :
    wpAny (model X.prog X.w) A (getItem (.ref a) (.ref b)) Q E s := by
  obtain ⟨z, hl, xs, r, dd⟩ := g_dict I g hk
  obtain ⟨w', hw, rw'⟩ := RelO.some_of (v := v) (o := (atKey xs k).map (·.2)) (by rw [← hv]; exact r.val k)
  obtain ⟨p, hp, hp2⟩ := Option.map_eq_some_iff.mp hw
  refine wpAny_getItem_heap (show A.in1.units + 8 < cLine from by show A.units + 1 + 8 < cLine; omega) (key_is I hy) dd hp ?_
  rw [hp2]
  exact h w' _ (I.tok _) rw'
theorem g_in {Q : Value → Shared → Prop} (hu : A.units + 20 < cLine) (I : Inv X pins σ H s) (g : GAt H a m) (hk : GKeys X.K H m) (hy : KeyH X.K H (.ref b) k) (h : ∀ s', Inv X pins σ H s' → Q (.bool (atM m k).isSome) s') :
    wpAny (model X.prog X.w) A (compareOp .In (.ref b) (.ref a)) Q E s := by
  obtain ⟨z, hl, xs, r, dd⟩ := g_dict I g hk
  refine wpAny_in_heap (show A.in1.units + 8 < cLine from by show A.units + 1 + 8 < cLine; omega) (key_is I hy) z dd ?_
  have q := (r.val k).isSome_eq
  rw [Option.isSome_map] at q
  rw [← q]
  exact h _ (I.tok _)
theorem g_get2 {d : V} {u : Value} {Q : Value → Shared → Prop} (hu : A.units + 20 < cLine) (I : Inv X pins σ H s) (g : GAt H a m) (hk : GKeys X.K H m) (hy : KeyH X.K H (.ref b) k) (rd : RelV d u) (h : ∀ w' s', Inv X pins σ H s' → RelV ((atM m k).getD d) w' → Q w' s') :
    wpAny (model X.prog X.w) A (call (.builtin "dict.get") [.ref a, .ref b, u]) Q E s := by
  obtain ⟨z, hl, xs, r, dd⟩ := g_dict I g hk
  refine call_meetsIn PySem.F.slot_dict_get dd.typeIs PySem.F.entry_dict_get (PySem.F.args_dict_get_3 _ _ _) (meetsH_dict_get_default (nestedKind X.prog X.w) a b z u) ⟨show A.in1.units + 8 < cLine from by show A.units + 1 + 8 < cLine; omega, k, xs, key_is I hy, dd, h _ _ (I.tok _) ?_⟩
  exact (r.val k).getD rd
/-- the dict to be put into: of its own kind, or empty -/
def GPut (H : Hp) (a : Addr) (m : GM) : Prop := H a = some (gO a m) ∨ (H a = some (.dK []) ∧ m = [])
theorem g_setItem {v : V} {u : Value} {Q : Unit → Shared → Prop} (hu : A.units + 20 < cLine) (I : Inv X pins σ H s) (g : GPut H a m) (hk : GKeys X.K H m) (hy : KeyH X.K H (.ref b) k) (hl : m.length < sizeLine) (rv : RelV v u) (h : ∀ s', Inv X pins σ (upd H a (gO a (putM m k b v))) s' → Q () s') :
    wpAny (model X.prog X.w) A (setItem (.ref a) (.ref b) u) Q E s := by
  have key : (a == sysModules) = false ∧ Mut (H a) ∧ ∃ xs, RelX m xs ∧ s.heap.DictOfH (nestedKind X.prog X.w) a xs := by
    rcases g with e | ⟨e, rfl⟩
    · obtain ⟨z, _, xs, r, dd⟩ := g_dict I (.own e) hk
      exact ⟨z, by rw [e]; trivial, xs, r, dd⟩
    · obtain ⟨z, hd, vs, rel, o, es, ep, h1, h2, h3, h4, h5, h6⟩ := dk_of I.hok e
      cases rel
      have h0 : es.toList = [] := by
        generalize es.toList = l at h5
        cases h5; rfl
      exact ⟨hd, by rw [e]; trivial, [], .nil, o, es, ep, h1, h2, h3, h0, by simp, by simp⟩
  obtain ⟨z, mu, xs, r, dd⟩ := key
  have hz : xs.length ≤ sizeLine := by rw [← Paired.length r]; omega
  refine wpAny_setItem_heap (hsz := hz) (show A.in1.units + 8 < cLine from by show A.units + 1 + 8 < cLine; omega) (key_is I hy) dd fun h' dd' hs => h _ ?_
  obtain ⟨q, es, ep, hq, h2, h3, h4, _, h5⟩ := dd'
  have hlen := putM_len m k b v
  have hfk : Free k := by obtain ⟨d, _, h2, _⟩ := hy; exact free_nk d _ h2
  have hfr := stored_free (b := b) (keys_free hk r) hfk u
  exact d_write I mu hs ⟨q, hq⟩ (g_ok ⟨z, by omega, _, r.put k b rv, q, es, ep, hq, h2, h3, fun P w => h4.trans (List.map_congr_left fun x hx => entry_free (hfr x hx)), h5⟩)
end
end GD

set_option Elab.async false
set_option linter.all false
set_option maxRecDepth 100000
/-! DL1: what data stand for in the heap; the frame's relation. -/
namespace DL
open PySem PySem.Spec PyProof.Rows L2

/-! a pool's addresses are Pl; O: addresses that the data do not lean on -/
/-- a key as data -/
def keyD : Key → D
  | .inl i => .int i
  | .inr x => .str x
def tkeyD (k : List Key) : D := .tup (k.map keyD)
mutual
/-- the key that a datum is: no text within -/
def nkD : D → Option NestedKey
  | .non => some .none
  | .bl b => some (.num (if b = true then 1 else 0))
  | .int i => some (.num i)
  | .tup xs => (nkDs xs).map .tup
  | _ => none
def nkDs : List D → Option (List NestedKey)
  | [] => some []
  | x :: xs => match nkD x, nkDs xs with
    | some k, some ks => some (k :: ks)
    | _, _ => none
end
/-- the keys of a dict, as data -/
structure KD (ks : List D) (m : GD.GM) : Prop where
  nk : ks.map nkD = m.map fun p => some p.1
  pl : plains 8 ks = true
  dp : ∀ p ∈ m, p.1.depth ≤ 8
mutual
def Rep (K : PySem.W.Frag) (Pl O : Addr → Prop) (H : Hp) : D → V → Prop
  | .non, v => v = .non
  | .bl b, v => v = .bl b
  | .int i, v => v = .int i
  | .str x, v => v = .str x
  | .tup ds, v => ∃ a vs, v = .ref a ∧ Rd H a (.tup vs) ∧ ¬ O a ∧ Reps K Pl O H ds vs
  | .lst ds, v => ∃ a vs, v = .ref a ∧ H a = some (.lst vs) ∧ ¬ O a ∧ Reps K Pl O H ds vs
  | .dct ks vs, v => ∃ a, v = .ref a ∧ ¬ O a ∧ ((∃ m : List (Key × V), H a = some (.dK m) ∧ ks = m.map (fun p => keyD p.1) ∧ Reps K Pl O H vs (m.map (·.2))) ∨ ∃ m : List (List Key × V), H a = some (.dT m) ∧ ks = m.map (fun p => tkeyD p.1) ∧ Reps K Pl O H vs (m.map (·.2)))
  | .pool, v => ∃ a, v = .ref a ∧ Pl a
  | .rnk ns, v => ∃ a o, v = .ref a ∧ H a = some (.frz o (.tup (ns.map V.int))) ∧ o.cls = .type "tuple" ∧ o.dict = none ∧ ¬ O a
  | .gd ks vs, v => ∃ a o m, v = .ref a ∧ H a = some (.frz o (GD.gO a m)) ∧ ¬ O a ∧ KD ks m ∧ Reps K Pl O H ks (m.map fun p => V.ref p.2.1) ∧ Reps K Pl O H vs (m.map fun p => p.2.2)
  | .frz ns, v => ∃ a, v = .ref a ∧ ((Rd H a (.lst (ns.map V.int)) ∧ ¬ O a) ∨ SqL K (fun _ => none) a (ns.map V.int))
def Reps (K : PySem.W.Frag) (Pl O : Addr → Prop) (H : Hp) : List D → List V → Prop
  | [], vs => vs = []
  | d :: ds, vs => ∃ v r, vs = v :: r ∧ Rep K Pl O H d v ∧ Reps K Pl O H ds r
end
/-- what stood and is not in O stands as it was -/
def Stab (O : Addr → Prop) (H H' : Hp) : Prop := ∀ a o, H a = some o → ¬ O a → H' a = some o
section
variable {K : PySem.W.Frag} {Pl O O' : Addr → Prop} {H H' H'' : Hp}
theorem Stab.refl : Stab O H H := fun _ _ h _ => h
theorem Stab.trans (a : Stab O H H') (b : Stab O H' H'') : Stab O H H'' := fun c o h n => b c o (a c o h n) n
theorem Stab.of (h : Same H H') : Stab O H H' := fun a o e _ => h a o e
theorem Stab.weak (h : Stab O H H') (s : ∀ a, O a → O' a) : Stab O' H H' := fun a o e n => h a o e fun z => n (s a z)
theorem Stab.rd {a : Addr} {u : HO} (s : Stab O H H') (n : ¬ O a) (h : Rd H a u) : Rd H' a u := by
  rcases h with h | ⟨o, h⟩
  · exact .inl (s a _ h n)
  · exact .inr ⟨o, s a _ h n⟩
theorem Stab.sqT {a : Addr} {xs : List V} (s : Stab O H H') (n : ¬ O a) (h : SqT K H a xs) : SqT K H' a xs := by
  rcases h with h | h
  · exact .inl (s.rd n h)
  · exact .inr h
theorem Stab.sqL {a : Addr} {xs : List V} (s : Stab O H H') (n : ¬ O a) (h : SqL K H a xs) : SqL K H' a xs := by
  rcases h with h | h
  · exact .inl (s.rd n h)
  · exact .inr h
mutual
theorem Rep.stab (s : Stab O H H') : ∀ {d : D} {v : V}, Rep K Pl O H d v → Rep K Pl O H' d v
  | .non, _, h => h
  | .bl _, _, h => h
  | .int _, _, h => h
  | .str _, _, h => h
  | .tup ds, _, h => by
    obtain ⟨a, vs, e, q, n, r⟩ := h
    exact ⟨a, vs, e, s.rd n q, n, Reps.stab s r⟩
  | .rnk ns, _, h => by
    obtain ⟨a, o, e, q, c, d, n⟩ := h
    exact ⟨a, o, e, s a _ q n, c, d, n⟩
  | .gd ks vs, _, h => by
    obtain ⟨a, o, m, e, q, n, kd, r1, r2⟩ := h
    exact ⟨a, o, m, e, s a _ q n, n, kd, Reps.stab s r1, Reps.stab s r2⟩
  | .lst ds, _, h => by
    obtain ⟨a, vs, e, q, n, r⟩ := h
    exact ⟨a, vs, e, s a _ q n, n, Reps.stab s r⟩
  | .dct ks vs, _, h => by
    obtain ⟨a, e, n, h⟩ := h
    rcases h with ⟨m, q, e1, r⟩ | ⟨m, q, e1, r⟩
    · exact ⟨a, e, n, .inl ⟨m, s a _ q n, e1, Reps.stab s r⟩⟩
    · exact ⟨a, e, n, .inr ⟨m, s a _ q n, e1, Reps.stab s r⟩⟩
  | .pool, _, h => h
  | .frz _, _, h => by
    obtain ⟨a, e, q⟩ := h
    exact ⟨a, e, q.imp_left fun q => ⟨s.rd q.2 q.1, q.2⟩⟩
theorem Reps.stab (s : Stab O H H') : ∀ {ds : List D} {vs : List V}, Reps K Pl O H ds vs → Reps K Pl O H' ds vs
  | [], _, h => h
  | d :: ds, _, h => by
    obtain ⟨v, r, e, h1, h2⟩ := h
    exact ⟨v, r, e, Rep.stab s h1, Reps.stab s h2⟩
end
/-- what stood outside of O stands as it was and is outside of O' -/
def Mv (O : Addr → Prop) (H : Hp) (O' : Addr → Prop) (H' : Hp) : Prop := ∀ a o, H a = some o → ¬ O a → H' a = some o ∧ ¬ O' a
theorem Mv.rd {a : Addr} {u : HO} (s : Mv O H O' H') (h : Rd H a u) (n : ¬ O a) : Rd H' a u ∧ ¬ O' a := by
  rcases h with h | ⟨o, h⟩
  · exact ⟨.inl (s a _ h n).1, (s a _ h n).2⟩
  · exact ⟨.inr ⟨o, (s a _ h n).1⟩, (s a _ h n).2⟩
theorem sqRd {K : PySem.W.Frag} {H : Hp} {a : Addr} {xs : List V} (h : Rd H a (.tup xs)) : SqT K H a xs := .inl h
theorem Mv.of (s : Stab O H H') : Mv O H O H' := fun a o h n => ⟨s a o h n, n⟩
theorem Mv.refl : Mv O H O H := Mv.of Stab.refl
theorem Mv.trans {O₁ O₂ O₃ : Addr → Prop} {H₁ H₂ H₃ : Hp} (a : Mv O₁ H₁ O₂ H₂) (b : Mv O₂ H₂ O₃ H₃) : Mv O₁ H₁ O₃ H₃ := fun c o h n => let ⟨h1, n1⟩ := a c o h n; b c o h1 n1
theorem Mv.less (s : ∀ a, O' a → O a) : Mv O H O' H := fun _ _ h n => ⟨h, fun z => n (s _ z)⟩
mutual
theorem Rep.mv (s : Mv O H O' H') : ∀ {d : D} {v : V}, Rep K Pl O H d v → Rep K Pl O' H' d v
  | .non, _, h => h
  | .bl _, _, h => h
  | .int _, _, h => h
  | .str _, _, h => h
  | .tup ds, _, h => by
    obtain ⟨a, vs, e, q, n, r⟩ := h
    exact ⟨a, vs, e, (s.rd q n).1, (s.rd q n).2, Reps.mv s r⟩
  | .rnk ns, _, h => by
    obtain ⟨a, o, e, q, c, d, n⟩ := h
    exact ⟨a, o, e, (s a _ q n).1, c, d, (s a _ q n).2⟩
  | .gd ks vs, _, h => by
    obtain ⟨a, o, m, e, q, n, kd, r1, r2⟩ := h
    exact ⟨a, o, m, e, (s a _ q n).1, (s a _ q n).2, kd, Reps.mv s r1, Reps.mv s r2⟩
  | .lst ds, _, h => by
    obtain ⟨a, vs, e, q, n, r⟩ := h
    exact ⟨a, vs, e, (s a _ q n).1, (s a _ q n).2, Reps.mv s r⟩
  | .dct ks vs, _, h => by
    obtain ⟨a, e, n, h⟩ := h
    rcases h with ⟨m, q, e1, r⟩ | ⟨m, q, e1, r⟩
    · exact ⟨a, e, (s a _ q n).2, .inl ⟨m, (s a _ q n).1, e1, Reps.mv s r⟩⟩
    · exact ⟨a, e, (s a _ q n).2, .inr ⟨m, (s a _ q n).1, e1, Reps.mv s r⟩⟩
  | .pool, _, h => h
  | .frz _, _, h => by
    obtain ⟨a, e, q⟩ := h
    refine ⟨a, e, q.imp_left fun q => ?_⟩
    obtain ⟨q | ⟨o, q⟩, n⟩ := q
    · exact ⟨.inl (s a _ q n).1, (s a _ q n).2⟩
    · exact ⟨.inr ⟨o, (s a _ q n).1⟩, (s a _ q n).2⟩
theorem Reps.mv (s : Mv O H O' H') : ∀ {ds : List D} {vs : List V}, Reps K Pl O H ds vs → Reps K Pl O' H' ds vs
  | [], _, h => h
  | d :: ds, _, h => by
    obtain ⟨v, r, e, h1, h2⟩ := h
    exact ⟨v, r, e, Rep.mv s h1, Reps.mv s h2⟩
end
mutual
theorem Rep.weak (s : ∀ a, O' a → O a) : ∀ {d : D} {v : V}, Rep K Pl O H d v → Rep K Pl O' H d v
  | .non, _, h => h
  | .bl _, _, h => h
  | .int _, _, h => h
  | .str _, _, h => h
  | .tup ds, _, h => by
    obtain ⟨a, vs, e, q, n, r⟩ := h
    exact ⟨a, vs, e, q, fun z => n (s a z), Reps.weak s r⟩
  | .lst ds, _, h => by
    obtain ⟨a, vs, e, q, n, r⟩ := h
    exact ⟨a, vs, e, q, fun z => n (s a z), Reps.weak s r⟩
  | .dct ks vs, _, h => by
    obtain ⟨a, e, n, h⟩ := h
    rcases h with ⟨m, q, e1, r⟩ | ⟨m, q, e1, r⟩
    · exact ⟨a, e, fun z => n (s a z), .inl ⟨m, q, e1, Reps.weak s r⟩⟩
    · exact ⟨a, e, fun z => n (s a z), .inr ⟨m, q, e1, Reps.weak s r⟩⟩
  | .pool, _, h => h
  | .frz _, _, h => by obtain ⟨a, e, q⟩ := h; exact ⟨a, e, q.imp_left fun q => ⟨q.1, fun z => q.2 (s a z)⟩⟩
  | .rnk ns, _, h => by
    obtain ⟨a, o, e, q, c, d, n⟩ := h
    exact ⟨a, o, e, q, c, d, fun z => n (s a z)⟩
  | .gd ks vs, _, h => by
    obtain ⟨a, o, m, e, q, n, kd, r1, r2⟩ := h
    exact ⟨a, o, m, e, q, fun z => n (s a z), kd, Reps.weak s r1, Reps.weak s r2⟩
theorem Reps.weak (s : ∀ a, O' a → O a) : ∀ {ds : List D} {vs : List V}, Reps K Pl O H ds vs → Reps K Pl O' H ds vs
  | [], _, h => h
  | d :: ds, _, h => by
    obtain ⟨v, r, e, h1, h2⟩ := h
    exact ⟨v, r, e, Rep.weak s h1, Reps.weak s h2⟩
end
theorem Reps.length : ∀ {ds : List D} {vs : List V}, Reps K Pl O H ds vs → vs.length = ds.length
  | [], _, h => by rw [show _ = [] from h]; rfl
  | d :: ds, _, h => by
    obtain ⟨v, r, e, _, h2⟩ := h
    rw [e, List.length_cons, List.length_cons, Reps.length h2]
theorem Reps.get : ∀ {ds : List D} {vs : List V} {i : Nat} {d : D}, Reps K Pl O H ds vs → ds[i]? = some d → ∃ v, vs[i]? = some v ∧ Rep K Pl O H d v
  | [], _, _, _, _, e => by simp at e
  | d :: ds, _, 0, _, h, e => by
    obtain ⟨v, r, rfl, h1, _⟩ := h
    simp at e; subst e
    exact ⟨v, rfl, h1⟩
  | d :: ds, _, i + 1, _, h, e => by
    obtain ⟨v, r, rfl, _, h2⟩ := h
    obtain ⟨v', e1, q⟩ := Reps.get (i := i) h2 (by simpa using e)
    exact ⟨v', by simpa using e1, q⟩
theorem Reps.app : ∀ {ds es : List D} {vs us : List V}, Reps K Pl O H ds vs → Reps K Pl O H es us → Reps K Pl O H (ds ++ es) (vs ++ us)
  | [], _, _, _, h, h' => by rw [show _ = [] from h]; exact h'
  | d :: ds, _, _, _, h, h' => by
    obtain ⟨v, r, rfl, h1, h2⟩ := h
    exact ⟨v, _, rfl, h1, Reps.app h2 h'⟩
theorem Reps.take : ∀ {ds : List D} {vs : List V} (n : Nat), Reps K Pl O H ds vs → Reps K Pl O H (ds.take n) (vs.take n)
  | _, _, 0, _ => by simp [Reps]
  | [], _, n + 1, h => by rw [show _ = [] from h]; simp [Reps]
  | d :: ds, _, n + 1, h => by
    obtain ⟨v, r, rfl, h1, h2⟩ := h
    exact ⟨v, _, rfl, h1, Reps.take n h2⟩
theorem Reps.drop : ∀ {ds : List D} {vs : List V} (n : Nat), Reps K Pl O H ds vs → Reps K Pl O H (ds.drop n) (vs.drop n)
  | _, _, 0, h => by simpa using h
  | [], _, n + 1, h => by rw [show _ = [] from h]; simp [Reps]
  | d :: ds, _, n + 1, h => by
    obtain ⟨v, r, rfl, h1, h2⟩ := h
    simpa using Reps.drop n h2
theorem Reps.one {d : D} {v : V} (h : Rep K Pl O H d v) : Reps K Pl O H [d] [v] := ⟨v, [], rfl, h, rfl⟩
theorem Reps.rep {ds : List D} {vs : List V} (h : Reps K Pl O H ds vs) : ∀ k : Nat, Reps K Pl O H (List.replicate k ds).flatten (List.replicate k vs).flatten
  | 0 => by simp [Reps]
  | k + 1 => by
    rw [List.replicate_succ, List.replicate_succ, List.flatten_cons, List.flatten_cons]
    exact h.app (Reps.rep h k)
theorem Reps.nil_iff {ds : List D} {vs : List V} (h : Reps K Pl O H ds vs) : vs.isEmpty = ds.isEmpty := by
  have := h.length
  cases ds <;> cases vs <;> simp_all
theorem Reps.dropLast {ds : List D} {vs : List V} (h : Reps K Pl O H ds vs) : Reps K Pl O H ds.dropLast vs.dropLast := by
  rw [List.dropLast_eq_take, List.dropLast_eq_take, h.length]
  exact h.take _
theorem Reps.set {d : D} {v : V} (q : Rep K Pl O H d v) : ∀ {ds : List D} {vs : List V} (i : Nat), Reps K Pl O H ds vs → Reps K Pl O H (ds.set i d) (vs.set i v)
  | [], _, _, h => by rw [show _ = [] from h]; simp [Reps]
  | d' :: ds, _, 0, h => by
    obtain ⟨v', r, rfl, h1, h2⟩ := h
    exact ⟨v, r, rfl, q, h2⟩
  | d' :: ds, _, i + 1, h => by
    obtain ⟨v', r, rfl, h1, h2⟩ := h
    exact ⟨v', _, rfl, h1, Reps.set q i h2⟩
theorem Reps.eraseIdx : ∀ {ds : List D} {vs : List V} (i : Nat), Reps K Pl O H ds vs → Reps K Pl O H (ds.eraseIdx i) (vs.eraseIdx i)
  | [], _, _, h => by rw [show _ = [] from h]; simp [Reps]
  | d' :: ds, _, 0, h => by
    obtain ⟨v', r, rfl, h1, h2⟩ := h
    exact h2
  | d' :: ds, _, i + 1, h => by
    obtain ⟨v', r, rfl, h1, h2⟩ := h
    exact ⟨v', _, rfl, h1, Reps.eraseIdx i h2⟩
end

/-! ### equality of data -/
def toPy : D → PyData
  | .non => .none
  | .bl b => .bool b
  | .int i => .int i
  | .str x => .str x
  | .tup xs => .tuple (xs.map toPy)
  | .lst xs => .list (xs.map toPy)
  | _ => .dict []
theorem plains_cons {n : Nat} {x : D} {xs : List D} : plains n (x :: xs) = true ↔ plain n x = true ∧ plains n xs = true := by simp [plains]
theorem peqs_of {n : Nat} (h : ∀ x y, plain n x = true → plain n y = true → peq x y = PyData.eqv (toPy x) (toPy y)) : ∀ xs ys : List D, plains n xs = true → plains n ys = true → peqs xs ys = PyData.eqvAll (xs.map toPy) (ys.map toPy)
  | [], [], _, _ => by simp [peqs, PyData.eqvAll]
  | [], y :: ys, _, _ => by simp [peqs, PyData.eqvAll]
  | x :: xs, [], _, _ => by simp [peqs, PyData.eqvAll]
  | x :: xs, y :: ys, hx, hy => by
    rw [plains_cons] at hx hy
    simp only [peqs, List.map_cons, PyData.eqvAll]
    rw [h x y hx.1 hy.1, peqs_of h xs ys hx.2 hy.2]
theorem peq_py : ∀ (n : Nat) (x y : D), plain n x = true → plain n y = true → peq x y = PyData.eqv (toPy x) (toPy y) := by
  intro n
  induction n with
  | zero =>
    intro x y hx hy
    cases x <;> cases y <;> first
      | (simp [peq, toPy, PyData.eqv]; done)
      | (simp [plain] at hx; done)
      | (simp [plain] at hy; done)
  | succ n ih =>
    intro x y hx hy
    cases x <;> cases y <;> first
      | (simp [peq, toPy, PyData.eqv]; done)
      | (simp [plain] at hx; done)
      | (simp [plain] at hy; done)
      | (simp only [plain] at hx hy; simp only [peq, toPy, PyData.eqv]; exact peqs_of ih _ _ hx hy)
theorem lay_of {n : Nat} (h : ∀ x, plain n x = true → (toPy x).canLay0 = true ∧ (toPy x).depth ≤ n + 1) : ∀ xs : List D, plains n xs = true → PyData.canLayAll0 (xs.map toPy) = true ∧ PyData.depthAll (xs.map toPy) ≤ n + 1
  | [], _ => by simp [PyData.canLayAll0, PyData.depthAll]
  | x :: xs, hx => by
    rw [plains_cons] at hx
    obtain ⟨a, b⟩ := h x hx.1
    obtain ⟨c, d⟩ := lay_of h xs hx.2
    simp only [List.map_cons, PyData.canLayAll0, PyData.depthAll, a, c, Bool.and_self, true_and]
    omega
theorem plain_lay : ∀ (n : Nat) (x : D), plain n x = true → (toPy x).canLay0 = true ∧ (toPy x).depth ≤ n + 1 := by
  intro n
  induction n with
  | zero =>
    intro x hx
    cases x <;> first
      | (simp [toPy, PyData.canLay0, PyData.depth]; done)
      | (simp [plain] at hx; done)
      | (simp only [plain] at hx; simp only [toPy, PyData.canLay0, PyData.depth]; exact ⟨hx, by omega⟩)
  | succ n ih =>
    intro x hx
    cases x <;> first
      | (simp [toPy, PyData.canLay0, PyData.depth]; done)
      | (simp [plain] at hx; done)
      | (simp only [plain] at hx; simp only [toPy, PyData.canLay0, PyData.depth]; have q := lay_of ih _ hx; exact ⟨q.1, by omega⟩)
      | (simp only [plain] at hx; simp only [toPy, PyData.canLay0, PyData.depth]; exact ⟨hx, by omega⟩)
theorem shaped_of {x : D} (h : plain DP x = true) : SeqAt.shaped (toPy x) = true := by
  obtain ⟨a, b⟩ := plain_lay _ _ h
  unfold SeqAt.shaped
  rw [a, Bool.true_and]
  exact decide_eq_true (Nat.le_trans b (by decide))
section
variable {K : PySem.W.Frag} {Pl O : Addr → Prop} {H : Hp}
theorem dpAll_of {n : Nat} (h : ∀ (x : D) (v : V), plain n x = true → Rep K Pl O H x v → Dp K H v (toPy x)) : ∀ (xs : List D) (vs : List V), plains n xs = true → Reps K Pl O H xs vs → DpAll K H vs (xs.map toPy)
  | [], vs, _, r => by rw [show vs = [] from r]; exact .nil
  | x :: xs, vs, hx, r => by
    rw [plains_cons] at hx
    obtain ⟨v, us, rfl, r1, r2⟩ := r
    exact .cons (h x v hx.1 r1) (dpAll_of h xs us hx.2 r2)
theorem dp_of : ∀ (n : Nat) (x : D) (v : V), plain n x = true → Rep K Pl O H x v → Dp K H v (toPy x) := by
  intro n
  induction n with
  | zero =>
    intro x v hx r
    cases x <;> first
      | (rw [show v = _ from r]; simp only [toPy]; constructor)
      | (simp [plain] at hx; done)
  | succ n ih =>
    intro x v hx r
    cases x with
    | tup xs =>
      obtain ⟨a, vs, rfl, q, _, r2⟩ := r
      simp only [plain] at hx
      simp only [toPy]
      exact .tup (sqRd q) (dpAll_of ih xs vs hx r2)
    | lst xs =>
      obtain ⟨a, vs, rfl, q, _, r2⟩ := r
      simp only [plain] at hx
      simp only [toPy]
      exact .lst (SqL.of q) (dpAll_of ih xs vs hx r2)
    | _ => first
      | (rw [show v = _ from r]; simp only [toPy]; constructor)
      | (simp [plain] at hx; done)
end
end DL

set_option Elab.async false
set_option linter.all false
set_option autoImplicit false
set_option maxRecDepth 100000
/-! DL2: the frame's relation, the judgements over data. -/
namespace DL
open PySem PySem.Spec PyProof.Rows L2
variable {K : PySem.W.Frag} {Tb : Addr → Prop}

/-- the law's pool of draws at a -/
def PoolOk (H : Hp) (a q : Addr) : Prop := ∃ (ns : List Int) (i v c s : Int), H a = some (.lst [.ref q, .int i, .int v, .int c, .int s]) ∧ H q = some (.lst (ns.map V.int)) ∧ 0 ≤ i ∧ q ≠ a
/-- what stands around: pools Pl, all background cells Z (pools, tables of code objects T), their state G -/
structure Wd (K : PySem.W.Frag) (T : Addr → Prop) where
  Pl : Addr → Prop
  Z : Addr → Prop
  G : Hp → Prop
  pz : ∀ a, Pl a → Z a
  tz : ∀ a, T a → Z a
  loc : ∀ H H', (∀ a, Z a → H' a = H a) → G H → G H'
  dom : ∀ H a, G H → Z a → ∃ o, H a = some o
  pq : Addr → Addr
  pool : ∀ H a, G H → Pl a → PoolOk H a (pq a)
  pools : ∀ H H' a, G H → Pl a → (∀ b, b ≠ a → H' b = H b) → PoolOk H' a (pq a) → G H'
  tab : ∀ H a, G H → T a → GxR.TabG H a
  tabs : ∀ H H' a, G H → T a → (∀ b, b ≠ a → H' b = H b) → GxR.TabG H' a → G H'

abbrev St := L2.St
abbrev Rp (W : Wd K Tb) (O : Addr → Prop) (H : Hp) (d : D) (v : V) : Prop := Rep K W.Pl O H d v
abbrev Rps (W : Wd K Tb) (O : Addr → Prop) (H : Hp) (ds : List D) (vs : List V) : Prop := Reps K W.Pl O H ds vs
/-- what stood is kept but for the background -/
def Keep (W : Wd K Tb) (H H' : Hp) : Prop := W.G H' ∧ ∀ a o, H a = some o → ¬ W.Z a → H' a = some o
/-- the dict at a: its keys and values, as data -/
def DicR (W : Wd K Tb) (O : Addr → Prop) (H : Hp) (a : Addr) (ks vs : List D) : Prop :=
  (∃ m : List (Key × V), H a = some (.dK m) ∧ ks = m.map (fun p => keyD p.1) ∧ Rps W O H vs (m.map (·.2))) ∨ ∃ m : List (List Key × V), H a = some (.dT m) ∧ ks = m.map (fun p => tkeyD p.1) ∧ Rps W O H vs (m.map (·.2))
/-- what a def may change -/
def MutO (o : HO) : Prop := (∃ vs, o = .lst vs) ∨ (∃ m, o = .dK m) ∨ (∃ m, o = .dT m) ∨ ∃ a m, o = GD.gO a m
/-- the dict at a, its keys tuples -/
def GdR (W : Wd K Tb) (O : Addr → Prop) (H : Hp) (a : Addr) (ks vs : List D) : Prop :=
  ∃ m, GD.GPut H a m ∧ KD ks m ∧ Rps W O H ks (m.map fun p => V.ref p.2.1) ∧ Rps W O H vs (m.map fun p => p.2.2)
def Slt (W : Wd K Tb) (O : Addr → Prop) (H0 H : Hp) (σ : St) (i : Nat) : Sl → Prop
  | .val d => ∃ v, σ[i]? = some (some v) ∧ Rp W O H d v
  | .own ds => ∃ a vs, σ[i]? = some (some (.ref a)) ∧ O a ∧ H0 a = none ∧ H a = some (.lst vs) ∧ Rps W O H ds vs
  | .dic kvs => ∃ a, σ[i]? = some (some (.ref a)) ∧ O a ∧ H0 a = none ∧ DicR W O H a (kvs.map (·.1)) (kvs.map (·.2))
  | .gdi kvs => ∃ a, σ[i]? = some (some (.ref a)) ∧ O a ∧ H0 a = none ∧ GdR W O H a (kvs.map (·.1)) (kvs.map (·.2))
structure FR (W : Wd K Tb) (Oc : Addr → Prop) (H0 : Hp) (O : Addr → Prop) (H : Hp) (σ : St) (env : DEnv) : Prop where
  g : W.G H
  kept : ∀ a o, H0 a = some o → ¬ W.Z a → H a = some o
  zc : ∀ a, W.Z a → Oc a
  dc : ∀ a, Oc a → ∃ o, H0 a = some o
  oc : ∀ a, Oc a → O a
  od : ∀ a, O a → Oc a ∨ (H0 a = none ∧ ∃ o, H a = some o ∧ MutO o)
  len : env.length = σ.length
  slot : ∀ (i : Nat) (s : Sl), env[i]? = some (some s) → Slt W O H0 H σ i s
  dist : ∀ (i j : Nat) (s t : Sl) (a : Addr), i ≠ j → env[i]? = some (some s) → env[j]? = some (some t) → s.mine = true → t.mine = true → σ[i]? = some (some (.ref a)) → σ[j]? = some (some (.ref a)) → False

section
variable {W : Wd K Tb} {Oc O O' : Addr → Prop} {H0 H H' H'' : Hp} {σ : St} {env : DEnv}
theorem Keep.refl (g : W.G H) : Keep W H H := ⟨g, fun _ _ h _ => h⟩
theorem Keep.trans (a : Keep W H H') (b : Keep W H' H'') : Keep W H H'' := ⟨b.1, fun c o h n => b.2 c o (a.2 c o h n) n⟩
theorem Keep.same (g : W.G H) (s : Same H H') : Keep W H H' := ⟨W.loc H H' (fun a z => by obtain ⟨o, e⟩ := W.dom H a g z; rw [e]; exact s a o e) g, fun a o h _ => s a o h⟩
theorem Keep.stab (k : Keep W H H') (zo : ∀ a, W.Z a → O a) : Stab O H H' := fun a o h n => k.2 a o h fun z => n (zo a z)
theorem FR.zo (F : FR W Oc H0 O H σ env) : ∀ a, W.Z a → O a := fun a z => F.oc a (F.zc a z)
theorem FR.dom (F : FR W Oc H0 O H σ env) : ∀ a, O a → ∃ o, H a = some o := fun a h => by
  rcases F.od a h with h | ⟨_, o, h, _⟩
  · by_cases z : W.Z a
    · exact W.dom H a F.g z
    · obtain ⟨o, e⟩ := F.dc a h
      exact ⟨o, F.kept a o e z⟩
  · exact ⟨_, h⟩
theorem FR.nO (F : FR W Oc H0 O H σ env) {p : Addr} (h : H p = none) : ¬ O p := fun z => by
  obtain ⟨o, e⟩ := F.dom p z
  rw [h] at e; cases e
theorem FR.ownZ (F : FR W Oc H0 O H σ env) {a : Addr} (h : H0 a = none) : ¬ W.Z a := fun z => by
  obtain ⟨o, e⟩ := F.dc a (F.zc a z)
  rw [h] at e; cases e
theorem DicR.keep {W : Wd K Tb} {O : Addr → Prop} {H H' : Hp} {a : Addr} {ks vs : List D} (r : DicR W O H a ks vs) (k : ∀ o, H a = some o → H' a = some o) (st : Stab O H H') : DicR W O H' a ks vs := by
  rcases r with ⟨m, q, e1, r⟩ | ⟨m, q, e1, r⟩
  · exact .inl ⟨m, k _ q, e1, Reps.stab st r⟩
  · exact .inr ⟨m, k _ q, e1, Reps.stab st r⟩
theorem DicR.weak {W : Wd K Tb} {O O' : Addr → Prop} {H : Hp} {a : Addr} {ks vs : List D} (s : ∀ a, O' a → O a) (r : DicR W O H a ks vs) : DicR W O' H a ks vs := by
  rcases r with ⟨m, q, e1, r⟩ | ⟨m, q, e1, r⟩
  · exact .inl ⟨m, q, e1, Reps.weak s r⟩
  · exact .inr ⟨m, q, e1, Reps.weak s r⟩
theorem DicR.mvK {W : Wd K Tb} {O O' : Addr → Prop} {H H' : Hp} {a : Addr} {ks vs : List D} (r : DicR W O H a ks vs) (k : ∀ o, H a = some o → H' a = some o) (mv : Mv O H O' H') : DicR W O' H' a ks vs := by
  rcases r with ⟨m, q, e1, r⟩ | ⟨m, q, e1, r⟩
  · exact .inl ⟨m, k _ q, e1, Reps.mv mv r⟩
  · exact .inr ⟨m, k _ q, e1, Reps.mv mv r⟩
theorem GdR.keep {W : Wd K Tb} {O : Addr → Prop} {H H' : Hp} {a : Addr} {ks vs : List D} (r : GdR W O H a ks vs) (k : ∀ o, H a = some o → H' a = some o) (st : Stab O H H') : GdR W O H' a ks vs := by
  obtain ⟨m, g, kd, r1, r2⟩ := r
  exact ⟨m, g.imp (k _) fun z => ⟨k _ z.1, z.2⟩, kd, Reps.stab st r1, Reps.stab st r2⟩
theorem GdR.weak {W : Wd K Tb} {O O' : Addr → Prop} {H : Hp} {a : Addr} {ks vs : List D} (s : ∀ a, O' a → O a) (r : GdR W O H a ks vs) : GdR W O' H a ks vs := by
  obtain ⟨m, g, kd, r1, r2⟩ := r
  exact ⟨m, g, kd, Reps.weak s r1, Reps.weak s r2⟩
theorem GdR.mvK {W : Wd K Tb} {O O' : Addr → Prop} {H H' : Hp} {a : Addr} {ks vs : List D} (r : GdR W O H a ks vs) (k : ∀ o, H a = some o → H' a = some o) (mv : Mv O H O' H') : GdR W O' H' a ks vs := by
  obtain ⟨m, g, kd, r1, r2⟩ := r
  exact ⟨m, g.imp (k _) fun z => ⟨k _ z.1, z.2⟩, kd, Reps.mv mv r1, Reps.mv mv r2⟩
theorem DicR.mut {W : Wd K Tb} {O : Addr → Prop} {H : Hp} {a : Addr} {ks vs : List D} (r : DicR W O H a ks vs) : ∃ o, H a = some o ∧ MutO o := by
  rcases r with ⟨m, q, e1, r⟩ | ⟨m, q, e1, r⟩
  · exact ⟨_, q, .inr (.inl ⟨m, rfl⟩)⟩
  · exact ⟨_, q, .inr (.inr (.inl ⟨m, rfl⟩))⟩
theorem FR.keep (F : FR W Oc H0 O H σ env) (k : Keep W H H') : FR W Oc H0 O H' σ env where
  g := k.1
  kept := fun a o h n => k.2 a o (F.kept a o h n) n
  zc := F.zc
  dc := F.dc
  oc := F.oc
  od := fun a h => by
    rcases F.od a h with h | ⟨h, o, e, m⟩
    · exact .inl h
    · exact .inr ⟨h, o, k.2 a _ e (F.ownZ h), m⟩
  len := F.len
  slot := fun i s e => by
    have q := F.slot i s e
    have st : Stab O H H' := k.stab F.zo
    cases s with
    | val d =>
      obtain ⟨v, e1, r⟩ := q
      exact ⟨v, e1, Rep.stab st r⟩
    | own ds =>
      obtain ⟨a, vs, e1, h1, h2, h3, r⟩ := q
      exact ⟨a, vs, e1, h1, h2, k.2 a _ h3 (F.ownZ h2), Reps.stab st r⟩
    | dic kvs =>
      obtain ⟨a, e1, h1, h2, r⟩ := q
      exact ⟨a, e1, h1, h2, r.keep (fun o q => k.2 a _ q (F.ownZ h2)) st⟩
    | gdi kvs =>
      obtain ⟨a, e1, h1, h2, r⟩ := q
      exact ⟨a, e1, h1, h2, r.keep (fun o q => k.2 a _ q (F.ownZ h2)) st⟩
  dist := F.dist
theorem FR.same (F : FR W Oc H0 O H σ env) (s : Same H H') : FR W Oc H0 O H' σ env := F.keep (Keep.same F.g s)
theorem same_upd {H : Hp} {p : Addr} {o : HO} (h : H p = none) : Same H (upd H p o) := fun a u e => by rw [upd_ne (ne_of_none e h)]; exact e
/-- a slot takes a value -/
theorem FR.set (F : FR W Oc H0 O H σ env) {i : Nat} {d : D} {v : V} (hi : i < env.length) (r : Rp W O H d v) : FR W Oc H0 O H (σ.set i (some v)) (env.set i (some (.val d))) where
  g := F.g
  kept := F.kept
  zc := F.zc
  dc := F.dc
  oc := F.oc
  od := F.od
  len := by rw [List.length_set, List.length_set]; exact F.len
  slot := fun j s e => by
    by_cases hj : i = j
    · subst hj
      rw [List.getElem?_set_self hi] at e
      cases e
      exact ⟨v, List.getElem?_set_self (F.len ▸ hi), r⟩
    · rw [List.getElem?_set_ne hj] at e
      have q := F.slot j s e
      cases s with
      | val d' => obtain ⟨v', e1, r'⟩ := q; exact ⟨v', by rw [List.getElem?_set_ne hj]; exact e1, r'⟩
      | own ds => obtain ⟨a, vs, e1, q⟩ := q; exact ⟨a, vs, by rw [List.getElem?_set_ne hj]; exact e1, q⟩
      | dic kvs => obtain ⟨a, e1, q⟩ := q; exact ⟨a, by rw [List.getElem?_set_ne hj]; exact e1, q⟩
      | gdi kvs => obtain ⟨a, e1, q⟩ := q; exact ⟨a, by rw [List.getElem?_set_ne hj]; exact e1, q⟩
  dist := fun j k s1 s2 a hjk e1 e2 m1 m2 e3 e4 => by
    by_cases hj : i = j
    · subst hj; rw [List.getElem?_set_self hi] at e1; cases e1; cases m1
    · by_cases hk : i = k
      · subst hk; rw [List.getElem?_set_self hi] at e2; cases e2; cases m2
      · rw [List.getElem?_set_ne hj] at e1 e3
        rw [List.getElem?_set_ne hk] at e2 e4
        exact F.dist j k s1 s2 a hjk e1 e2 m1 m2 e3 e4
/-- a slot forgotten (in data, and perhaps in the frame) -/
theorem FR.forget (F : FR W Oc H0 O H σ env) (i : Nat) : FR W Oc H0 O H σ (env.set i none) where
  g := F.g
  kept := F.kept
  zc := F.zc
  dc := F.dc
  oc := F.oc
  od := F.od
  len := by rw [List.length_set]; exact F.len
  slot := fun j s e => by
    by_cases hj : i = j
    · subst hj
      by_cases hl : i < env.length
      · rw [List.getElem?_set_self hl] at e; cases e
      · rw [List.getElem?_eq_none (by simpa using hl)] at e; cases e
    · rw [List.getElem?_set_ne hj] at e; exact F.slot j s e
  dist := fun j k s1 s2 a hjk e1 e2 m1 m2 e3 e4 => by
    have z : ∀ {j : Nat} {s : Sl}, (env.set i none)[j]? = some (some s) → env[j]? = some (some s) := fun {j s} e => by
      by_cases hj : i = j
      · subst hj
        by_cases hl : i < env.length
        · rw [List.getElem?_set_self hl] at e; cases e
        · rw [List.getElem?_eq_none (by simpa using hl)] at e; cases e
      · rw [List.getElem?_set_ne hj] at e; exact e
    exact F.dist j k s1 s2 a hjk (z e1) (z e2) m1 m2 e3 e4
theorem FR.forgetσ (F : FR W Oc H0 O H σ env) (i : Nat) (h : env[i]? = some none ∨ env.length ≤ i) : FR W Oc H0 O H (σ.set i none) env where
  g := F.g
  kept := F.kept
  zc := F.zc
  dc := F.dc
  oc := F.oc
  od := F.od
  len := by rw [List.length_set]; exact F.len
  slot := fun j s e => by
    by_cases hj : i = j
    · subst hj
      rcases h with h | h
      · rw [h] at e; cases e
      · rw [List.getElem?_eq_none h] at e; cases e
    · have q := F.slot j s e
      cases s with
      | val d' => obtain ⟨v', e1, r'⟩ := q; exact ⟨v', by rw [List.getElem?_set_ne hj]; exact e1, r'⟩
      | own ds => obtain ⟨a, vs, e1, q⟩ := q; exact ⟨a, vs, by rw [List.getElem?_set_ne hj]; exact e1, q⟩
      | dic kvs => obtain ⟨a, e1, q⟩ := q; exact ⟨a, by rw [List.getElem?_set_ne hj]; exact e1, q⟩
      | gdi kvs => obtain ⟨a, e1, q⟩ := q; exact ⟨a, by rw [List.getElem?_set_ne hj]; exact e1, q⟩
  dist := fun j k s1 s2 a hjk e1 e2 m1 m2 e3 e4 => by
    by_cases hj : i = j
    · subst hj
      rcases h with h | h
      · rw [h] at e1; cases e1
      · rw [List.getElem?_eq_none h] at e1; cases e1
    · by_cases hk : i = k
      · subst hk
        rcases h with h | h
        · rw [h] at e2; cases e2
        · rw [List.getElem?_eq_none h] at e2; cases e2
      · rw [List.getElem?_set_ne hj] at e3
        rw [List.getElem?_set_ne hk] at e4
        exact F.dist j k s1 s2 a hjk e1 e2 m1 m2 e3 e4
end

/-! ### judgements -/

structure EV (X : Cx) (Tb : Addr → Prop) (e : Expr) (m : ME) : Prop where
  ex : ∃ t, PE X e t ∧ ∀ (W : Wd X.K Tb) (Oc : Addr → Prop) (H0 : Hp) (O : Addr → Prop) (H : Hp) (σ : St) (env : DEnv) (Q : VK) (P : D → DEnv → Prop), FR W Oc H0 O H σ env → m env P →
    (∀ H' v d env', FR W Oc H0 O H' σ env' → Stab O H H' → Rp W O H' d v → P d env' → Q v H') → t σ H Q
structure TV (X : Cx) (Tb : Addr → Prop) (e : Expr) (m : MT) : Prop where
  ex : ∃ t, PT X e t ∧ ∀ (W : Wd X.K Tb) (Oc : Addr → Prop) (H0 : Hp) (O : Addr → Prop) (H : Hp) (σ : St) (env : DEnv) (Q : Bool → Hp → Prop) (P : Bool → DEnv → Prop), FR W Oc H0 O H σ env → m env P →
    (∀ H' k env', FR W Oc H0 O H' σ env' → Stab O H H' → P k env' → Q k H') → t σ H Q
/-- a chain of and, or -/
structure TW (X : Cx) (Tb : Addr → Prop) (e : Expr) (m : MT) : Prop where
  ex : ∃ t, PW X e t ∧ ∀ (W : Wd X.K Tb) (Oc : Addr → Prop) (H0 : Hp) (O : Addr → Prop) (H : Hp) (σ : St) (env : DEnv) (Q : Bool → Hp → Prop) (P : Bool → DEnv → Prop), FR W Oc H0 O H σ env → m env P →
    (∀ H' k env', FR W Oc H0 O H' σ env' → Stab O H H' → P k env' → Q k H') → t σ H Q
structure AV (X : Cx) (Tb : Addr → Prop) (es : List Expr) (m : MA) : Prop where
  ex : ∃ t, PA X es t ∧ ∀ (W : Wd X.K Tb) (Oc : Addr → Prop) (H0 : Hp) (O : Addr → Prop) (H : Hp) (σ : St) (env : DEnv) (Q : List V → Hp → Prop) (P : List D → DEnv → Prop), FR W Oc H0 O H σ env → m env P →
    (∀ H' vs ds env', FR W Oc H0 O H' σ env' → Stab O H H' → Rps W O H' ds vs → P ds env' → Q vs H') → t σ H Q
/-- a two-place operation on values -/
def OV (X : Cx) (f : Value → Value → Sem Value) (o : O2) : Prop :=
  ∃ r, OpR X f r ∧ ∀ (Pl O : Addr → Prop) (H : Hp) (x y : D) (v u : V) (Q : VK) (P : D → Prop), (∀ p, H p = none → ¬ O p) → Rep X.K Pl O H x v → Rep X.K Pl O H y u → o x y P →
    (∀ H' z d, Same H H' → Rep X.K Pl O H' d z → P d → Q z H') → r v u H Q
def UV (X : Cx) (f : Value → Sem Value) (o : O1) : Prop :=
  ∃ r, UnR X f r ∧ ∀ (Pl O : Addr → Prop) (H : Hp) (x : D) (v : V) (Q : VK) (P : D → Prop), (∀ p, H p = none → ¬ O p) → Rep X.K Pl O H x v → o x P →
    (∀ H' z d, Same H H' → Rep X.K Pl O H' d z → P d → Q z H') → r v H Q
/-- a built-in called with values -/
def CV (X : Cx) (f : Value) (F : FD) : Prop :=
  ∃ r, CallR X f r ∧ ∀ (Pl O : Addr → Prop) (H : Hp) (ds : List D) (vs : List V) (Q : VK) (P : D → Prop), (∀ p, H p = none → ¬ O p) → Reps X.K Pl O H ds vs → F ds P →
    (∀ H' z d, Same H H' → Rep X.K Pl O H' d z → P d → Q z H') → r vs H Q
variable {X : Cx} {Tb : Addr → Prop}
section
variable {a b c e : Expr} {es : List Expr} {ma mb mc m : ME} {mr : MA} {pos p : Pos}
theorem ev_var {i : Nat} {x : Str} (h : PE X (.Name x pos) (tVar i)) : EV X Tb (.Name x pos) (eVar i) := by
  refine ⟨_, h, fun W Oc H0 O H σ env Q P F hm hq => ?_⟩
  unfold eVar at hm
  split at hm
  · rename_i d e
    obtain ⟨v, e1, r⟩ := F.slot i _ e
    exact ⟨v, e1, hq H v d env F Stab.refl r hm⟩
  · exact hm.elim
theorem ev_c {d : D} {v : V} (h : PE X e (tC v)) (r : ∀ Pl O H, Rep X.K Pl O H d v) : EV X Tb e (eC d) :=
  ⟨_, h, fun W Oc H0 O H σ env Q P F hm hq => hq H v d env F Stab.refl (r W.Pl O H) hm⟩
theorem ev_int {i : Int} {j} : EV X Tb (.Constant (.int i) j pos) (eC (.int i)) := ev_c pe_int fun _ _ _ => rfl
theorem ev_bl {b : Bool} {j} : EV X Tb (.Constant (.bool b) j pos) (eC (.bl b)) := ev_c pe_bl fun _ _ _ => rfl
theorem ev_non {j} : EV X Tb (.Constant .none j pos) (eC .non) := ev_c pe_non fun _ _ _ => rfl
theorem ev_str {x : Str} {j} : EV X Tb (.Constant (.str x) j pos) (eC (.str x)) := ev_c pe_str fun _ _ _ => rfl
/-- a module's constant: an int, a text -/
theorem ev_globI {x : Str} {i : Int} {t : Tok} (hg : Gl X x) (hm : X.mg x = some (.int i t)) (hd : (x == ("__debug__" : Str)) = false := by decide) : EV X Tb (.Name x pos) (eC (.int i)) := ev_c (v := .int i) (pe_glob hg hm ⟨t, rfl⟩ hd) fun _ _ _ => rfl
theorem ev_globS {x s : Str} {t : Tok} (hg : Gl X x) (hm : X.mg x = some (.str s t)) (hd : (x == ("__debug__" : Str)) = false := by decide) : EV X Tb (.Name x pos) (eC (.str s)) := ev_c (v := .str s) (pe_glob hg hm ⟨t, rfl⟩ hd) fun _ _ _ => rfl
theorem ov_run {o : O2} {r : R2} {ta tb : TE}
    (ha : ∀ (W : Wd X.K Tb) (Oc : Addr → Prop) (H0 : Hp) (O : Addr → Prop) (H : Hp) (σ : St) (env : DEnv) (Q : VK) (P : D → DEnv → Prop), FR W Oc H0 O H σ env → ma env P → (∀ H' v d env', FR W Oc H0 O H' σ env' → Stab O H H' → Rp W O H' d v → P d env' → Q v H') → ta σ H Q)
    (hb : ∀ (W : Wd X.K Tb) (Oc : Addr → Prop) (H0 : Hp) (O : Addr → Prop) (H : Hp) (σ : St) (env : DEnv) (Q : VK) (P : D → DEnv → Prop), FR W Oc H0 O H σ env → mb env P → (∀ H' v d env', FR W Oc H0 O H' σ env' → Stab O H H' → Rp W O H' d v → P d env' → Q v H') → tb σ H Q)
    (ho : ∀ (Pl O : Addr → Prop) (H : Hp) (x y : D) (v u : V) (Q : VK) (P : D → Prop), (∀ p, H p = none → ¬ O p) → Rep X.K Pl O H x v → Rep X.K Pl O H y u → o x y P → (∀ H' z d, Same H H' → Rep X.K Pl O H' d z → P d → Q z H') → r v u H Q)
    (W : Wd X.K Tb) (Oc : Addr → Prop) (H0 : Hp) (O : Addr → Prop) (H : Hp) (σ : St) (env : DEnv) (Q : VK) (P : D → DEnv → Prop) (F : FR W Oc H0 O H σ env) (hm : eBin o ma mb env P)
    (hq : ∀ H' v d env', FR W Oc H0 O H' σ env' → Stab O H H' → Rp W O H' d v → P d env' → Q v H') : tOp r ta tb σ H Q := by
  refine ha W Oc H0 O H σ env _ _ F hm fun H1 x dx e1 F1 s1 r1 h1 => ?_
  refine hb W Oc H0 O H1 σ e1 _ _ F1 h1 fun H2 y dy e2 F2 s2 r2 h2 => ?_
  refine ho W.Pl O H2 dx dy x y _ _ (fun p hp => F2.nO hp) (Rep.stab s2 r1) r2 h2 fun H3 z d s3 r3 h3 => ?_
  exact hq H3 z d e2 (F2.same s3) (s1.trans (s2.trans (Stab.of s3))) r3 h3
theorem ev_op {op : Operator} {o : O2} (ho : OV X (binaryOp op) o) (ha : EV X Tb a ma) (hb : EV X Tb b mb) : EV X Tb (.BinOp a op b pos) (eBin o ma mb) := by
  obtain ⟨r, hr, h⟩ := ho
  obtain ⟨ta, pa, h1⟩ := ha.ex
  obtain ⟨tb, pb, h2⟩ := hb.ex
  exact ⟨_, pe_op hr pa pb, ov_run h1 h2 h⟩
theorem ev_cmp {op : CmpOp} {o : O2} (ho : OV X (compareOp op) o) (ha : EV X Tb a ma) (hb : EV X Tb b mb) (hm : behindInMarks op b = false) : EV X Tb (.Compare a [op] [b] pos) (eBin o ma mb) := by
  obtain ⟨r, hr, h⟩ := ho
  obtain ⟨ta, pa, h1⟩ := ha.ex
  obtain ⟨tb, pb, h2⟩ := hb.ex
  exact ⟨_, pe_cmpR hr pa pb hm, ov_run h1 h2 h⟩
theorem ev_ix {o : O2} (hr : ∃ r, IxR X r ∧ ∀ (Pl O : Addr → Prop) (H : Hp) (x y : D) (v u : V) (Q : VK) (P : D → Prop), (∀ p, H p = none → ¬ O p) → Rep X.K Pl O H x v → Rep X.K Pl O H y u → o x y P → (∀ H' z d, Same H H' → Rep X.K Pl O H' d z → P d → Q z H') → r v u H Q)
    (ha : EV X Tb a ma) (hb : EV X Tb b mb) (hs : PlainIx b) : EV X Tb (.Subscript a b pos) (eBin o ma mb) := by
  obtain ⟨r, hr, h⟩ := hr
  obtain ⟨ta, pa, h1⟩ := ha.ex
  obtain ⟨tb, pb, h2⟩ := hb.ex
  exact ⟨_, pe_ix hr pa pb hs, ov_run h1 h2 h⟩
theorem ev_un {op : UnaryOp} {o : O1} (ho : UV X (unaryOp op) o) (ha : EV X Tb a ma) : EV X Tb (.UnaryOp op a pos) (eUn o ma) := by
  obtain ⟨r, hr, h⟩ := ho
  obtain ⟨ta, pa, h1⟩ := ha.ex
  refine ⟨_, pe_un hr pa, fun W Oc H0 O H σ env Q P F hm hq => ?_⟩
  refine h1 W Oc H0 O H σ env _ _ F hm fun H1 x dx e1 F1 s1 r1 q1 => ?_
  refine h W.Pl O H1 dx x _ _ (fun p hp => F1.nO hp) r1 q1 fun H3 z d s3 r3 q3 => ?_
  exact hq H3 z d e1 (F1.same s3) (s1.trans (Stab.of s3)) r3 q3
theorem av_nil : AV X Tb [] aNil := ⟨_, pa_nil, fun W Oc H0 O H σ env Q P F hm hq => hq H [] [] env F Stab.refl rfl hm⟩
theorem av_cons (ha : EV X Tb e m) (hr : AV X Tb es mr) (hs : starEach (e :: es) X.env = (false, eval e X.env) :: starEach es X.env := by rfl) : AV X Tb (e :: es) (aCons m mr) := by
  obtain ⟨ta, pa, h1⟩ := ha.ex
  obtain ⟨tr, pr, h2⟩ := hr.ex
  refine ⟨_, pa_cons pa pr hs, fun W Oc H0 O H σ env Q P F hm hq => ?_⟩
  refine h1 W Oc H0 O H σ env _ _ F hm fun H1 x dx e1 F1 s1 r1 q1 => ?_
  refine h2 W Oc H0 O H1 σ e1 _ _ F1 q1 fun H2 xs ds e2 F2 s2 r2 q2 => ?_
  exact hq H2 (x :: xs) (dx :: ds) e2 F2 (s1.trans s2) ⟨x, xs, rfl, Rep.stab s2 r1, r2⟩ q2
theorem ln_eq : LN = sizeLine := by rw [sizeLine_eq]
theorem new_tup {W : Wd X.K Tb} {Oc O : Addr → Prop} {H0 H : Hp} {σ : St} {env : DEnv} {ds : List D} {vs : List V} {p : Addr} (F : FR W Oc H0 O H σ env) (r : Rps W O H ds vs) (h : H p = none) : Rp W O (upd H p (.tup vs)) (.tup ds) (.ref p) :=
  ⟨p, vs, rfl, .inl upd_same, F.nO h, Reps.stab (Stab.of (same_upd h)) r⟩
theorem new_lst {W : Wd X.K Tb} {Oc O : Addr → Prop} {H0 H : Hp} {σ : St} {env : DEnv} {ds : List D} {vs : List V} {p : Addr} (F : FR W Oc H0 O H σ env) (r : Rps W O H ds vs) (h : H p = none) : Rp W O (upd H p (.lst vs)) (.lst ds) (.ref p) :=
  ⟨p, vs, rfl, upd_same, F.nO h, Reps.stab (Stab.of (same_upd h)) r⟩
theorem ev_tup {x1} (h : AV X Tb es mr) : EV X Tb (.Tuple es x1 pos) (eTup mr) := by
  obtain ⟨t, pa, h1⟩ := h.ex
  refine ⟨_, pe_tup pa, fun W Oc H0 O H σ env Q P F hm hq => ?_⟩
  refine h1 W Oc H0 O H σ env _ _ F hm fun H1 xs ds e1 F1 s1 r1 ⟨z, q1⟩ => ⟨by rw [r1.length, ← ln_eq]; exact z, fun p hp => ?_⟩
  exact hq _ _ _ e1 (F1.same (same_upd hp)) (s1.trans (Stab.of (same_upd hp))) (new_tup F1 r1 hp) q1
theorem ev_lst (h : AV X Tb es mr) : EV X Tb (.List es pos) (eLst mr) := by
  obtain ⟨t, pa, h1⟩ := h.ex
  refine ⟨_, pe_lst pa, fun W Oc H0 O H σ env Q P F hm hq => ?_⟩
  refine h1 W Oc H0 O H σ env _ _ F hm fun H1 xs ds e1 F1 s1 r1 ⟨z, q1⟩ => ⟨by rw [r1.length, ← ln_eq]; exact z, fun p hp => ?_⟩
  exact hq _ _ _ e1 (F1.same (same_upd hp)) (s1.trans (Stab.of (same_upd hp))) (new_lst F1 r1 hp) q1

theorem ev_dct : EV X Tb (.Dict [] [] pos) eDct :=
  ⟨_, pe_dnewK, fun W Oc H0 O H σ env Q P F hm hq p hp => hq _ _ (.dct [] []) env (F.same (same_upd hp)) (Stab.of (same_upd hp)) ⟨p, rfl, F.nO hp, .inl ⟨[], upd_same, rfl, rfl⟩⟩ hm⟩

/-! ### and, or, not, if -/
theorem ev_one {op} (h : EV X Tb a m) : EV X Tb (.BoolOp op [a] pos) m := by
  obtain ⟨t, pa, h1⟩ := h.ex
  exact ⟨_, pe_one pa, h1⟩
theorem ev_and {rest : List Expr} (ha : EV X Tb a ma) (hb : EV X Tb (.BoolOp .And (b :: rest) pos) mb) : EV X Tb (.BoolOp .And (a :: b :: rest) pos) (eAnd ma mb) := by
  obtain ⟨ta, pa, h1⟩ := ha.ex
  obtain ⟨tb, pb, h2⟩ := hb.ex
  refine ⟨_, pe_and pa pb, fun W Oc H0 O H σ env Q P F hm hq => ?_⟩
  refine h1 W Oc H0 O H σ env _ _ F hm fun H1 x dx e1 F1 s1 r1 q1 => ?_
  cases dx with
  | bl k =>
    refine ⟨k, r1, ?_⟩
    cases k with
    | true => exact iteT (h2 W Oc H0 O H1 σ e1 _ _ F1 q1 fun H2 y dy e2 F2 s2 r2 q2 => hq H2 y dy e2 F2 (s1.trans s2) r2 q2)
    | false => exact iteF (hq H1 _ (.bl false) e1 F1 s1 rfl q1)
  | _ => exact False.elim q1
theorem ev_or {rest : List Expr} (ha : EV X Tb a ma) (hb : EV X Tb (.BoolOp .Or (b :: rest) pos) mb) : EV X Tb (.BoolOp .Or (a :: b :: rest) pos) (eOr ma mb) := by
  obtain ⟨ta, pa, h1⟩ := ha.ex
  obtain ⟨tb, pb, h2⟩ := hb.ex
  refine ⟨_, pe_or pa pb, fun W Oc H0 O H σ env Q P F hm hq => ?_⟩
  refine h1 W Oc H0 O H σ env _ _ F hm fun H1 x dx e1 F1 s1 r1 q1 => ?_
  cases dx with
  | bl k =>
    refine ⟨k, r1, ?_⟩
    cases k with
    | false => exact iteF (h2 W Oc H0 O H1 σ e1 _ _ F1 q1 fun H2 y dy e2 F2 s2 r2 q2 => hq H2 y dy e2 F2 (s1.trans s2) r2 q2)
    | true => exact iteT (hq H1 _ (.bl true) e1 F1 s1 rfl q1)
  | _ => exact False.elim q1
theorem ev_not (ha : EV X Tb a ma) : EV X Tb (.UnaryOp .Not a pos) (eNot ma) := by
  obtain ⟨ta, pa, h1⟩ := ha.ex
  refine ⟨_, pe_not pa, fun W Oc H0 O H σ env Q P F hm hq => ?_⟩
  refine h1 W Oc H0 O H σ env _ _ F hm fun H1 x dx e1 F1 s1 r1 q1 => ?_
  cases dx with
  | bl k => exact ⟨k, r1, hq H1 _ (.bl (!k)) e1 F1 s1 rfl q1⟩
  | _ => exact False.elim q1
theorem ev_if {mt : MT} (hc : TV X Tb c mt) (ha : EV X Tb a ma) (hb : EV X Tb b mb) : EV X Tb (.IfExp c a b pos) (eIf mt ma mb) := by
  obtain ⟨tc, pc, h0⟩ := hc.ex
  obtain ⟨ta, pa, h1⟩ := ha.ex
  obtain ⟨tb, pb, h2⟩ := hb.ex
  refine ⟨_, pe_ifExp pc pa pb, fun W Oc H0 O H σ env Q P F hm hq => ?_⟩
  refine h0 W Oc H0 O H σ env _ _ F hm fun H1 k e1 F1 s1 q1 => ?_
  cases k with
  | true => exact iteT (h1 W Oc H0 O H1 σ e1 _ _ F1 q1 fun H2 y dy e2 F2 s2 r2 q2 => hq H2 y dy e2 F2 (s1.trans s2) r2 q2)
  | false => exact iteF (h2 W Oc H0 O H1 σ e1 _ _ F1 q1 fun H2 y dy e2 F2 s2 r2 q2 => hq H2 y dy e2 F2 (s1.trans s2) r2 q2)
theorem ev_chain {op op' : CmpOp} {o o' : O2} (ho : OV X (compareOp op) o) (ho' : OV X (compareOp op') o') (ha : EV X Tb a ma) (hb : EV X Tb b mb) (hc : EV X Tb c mc)
    (hl : lastMarks [op, op'] [b, c] = false := by with_unfolding_all rfl) : EV X Tb (.Compare a [op, op'] [b, c] pos) (eChain o o' ma mb mc) := by
  obtain ⟨r, hr, g1⟩ := ho
  obtain ⟨r', hr', g2⟩ := ho'
  obtain ⟨ta, pa, ha⟩ := ha.ex
  obtain ⟨tb, pb, hb⟩ := hb.ex
  obtain ⟨tc, pc, hc⟩ := hc.ex
  refine ⟨_, pe_chain hr hr' pa pb pc hl, fun W Oc H0 O H σ env Q P F hm hq => ?_⟩
  refine ha W Oc H0 O H σ env _ _ F hm fun H1 x dx e1 F1 s1 r1 q1 => ?_
  refine hb W Oc H0 O H1 σ e1 _ _ F1 q1 fun H2 y dy e2 F2 s2 r2 q2 => ?_
  refine g1 W.Pl O H2 dx dy x y _ _ (fun p hp => F2.nO hp) (Rep.stab s2 r1) r2 q2 fun H3 z d s3 r3 q3 => ?_
  have F3 := F2.same s3
  cases d with
  | bl k =>
    refine ⟨k, r3, ?_⟩
    cases k with
    | false => exact iteF (hq H3 _ (.bl false) e2 F3 (s1.trans (s2.trans (Stab.of s3))) rfl q3)
    | true =>
      refine iteT (hc W Oc H0 O H3 σ e2 _ _ F3 q3 fun H4 u du e4 F4 s4 r4 q4 => ?_)
      refine g2 W.Pl O H4 dy du y u _ _ (fun p hp => F4.nO hp) (Rep.stab ((Stab.of s3).trans s4) r2) r4 q4 fun H5 z5 d5 s5 r5 q5 => ?_
      exact hq H5 z5 d5 e4 (F4.same s5) (s1.trans (s2.trans ((Stab.of s3).trans (s4.trans (Stab.of s5))))) r5 q5
  | _ => exact False.elim q3

/-! ### tests -/
theorem tv_val (h : EV X Tb e m) (he : ∀ whole, isTrue e X.env whole = (do let v ← whole; standAt e.pos; holding [v] (truthy v)) := by intro _; rfl) : TV X Tb e (tVal m) := by
  obtain ⟨t, pa, h1⟩ := h.ex
  refine ⟨_, pt_val pa he, fun W Oc H0 O H σ env Q P F hm hq => ?_⟩
  refine h1 W Oc H0 O H σ env _ _ F hm fun H1 x dx e1 F1 s1 r1 q1 => ?_
  cases dx with
  | bl k => exact ⟨k, r1, hq H1 k e1 F1 s1 q1⟩
  | _ => exact False.elim q1
theorem tv_cmp {op : CmpOp} {o : O2} (ho : OV X (compareOp op) o) (ha : EV X Tb a ma) (hb : EV X Tb b mb) (hm : behindInMarks op b = false) : TV X Tb (.Compare a [op] [b] pos) (tVal (eBin o ma mb)) := by
  obtain ⟨r, hr, h⟩ := ho
  obtain ⟨ta, pa, h1⟩ := ha.ex
  obtain ⟨tb, pb, h2⟩ := hb.ex
  refine ⟨_, pt_cmpR hr pa pb hm, fun W Oc H0 O H σ env Q P F hm hq => ?_⟩
  refine ov_run h1 h2 h W Oc H0 O H σ env _ _ F hm fun H1 x dx e1 F1 s1 r1 q1 => ?_
  cases dx with
  | bl k => exact ⟨k, r1, hq H1 k e1 F1 s1 q1⟩
  | _ => exact False.elim q1
theorem tv_chain {op op' : CmpOp} {o o' : O2} (ho : OV X (compareOp op) o) (ho' : OV X (compareOp op') o') (ha : EV X Tb a ma) (hb : EV X Tb b mb) (hc : EV X Tb c mc)
    (hl : lastMarks [op, op'] [b, c] = false := by with_unfolding_all rfl) : TV X Tb (.Compare a [op, op'] [b, c] pos) (tVal (eChain o o' ma mb mc)) := by
  obtain ⟨r, hr, g1⟩ := ho
  obtain ⟨r', hr', g2⟩ := ho'
  obtain ⟨ta, pa, ha⟩ := ha.ex
  obtain ⟨tb, pb, hb⟩ := hb.ex
  obtain ⟨tc, pc, hc⟩ := hc.ex
  refine ⟨_, pt_chain hr hr' pa pb pc hl, fun W Oc H0 O H σ env Q P F hm hq => ?_⟩
  refine ha W Oc H0 O H σ env _ _ F hm fun H1 x dx e1 F1 s1 r1 q1 => ?_
  refine hb W Oc H0 O H1 σ e1 _ _ F1 q1 fun H2 y dy e2 F2 s2 r2 q2 => ?_
  refine g1 W.Pl O H2 dx dy x y _ _ (fun p hp => F2.nO hp) (Rep.stab s2 r1) r2 q2 fun H3 z d s3 r3 q3 => ?_
  have F3 := F2.same s3
  cases d with
  | bl k =>
    refine ⟨k, r3, ?_⟩
    cases k with
    | false => exact iteF ⟨false, rfl, hq H3 _ e2 F3 (s1.trans (s2.trans (Stab.of s3))) q3⟩
    | true =>
      refine iteT (hc W Oc H0 O H3 σ e2 _ _ F3 q3 fun H4 u du e4 F4 s4 r4 q4 => ?_)
      refine g2 W.Pl O H4 dy du y u _ _ (fun p hp => F4.nO hp) (Rep.stab ((Stab.of s3).trans s4) r2) r4 q4 fun H5 z5 d5 s5 r5 q5 => ?_
      cases d5 with
      | bl k5 => exact ⟨k5, r5, hq H5 k5 e4 (F4.same s5) (s1.trans (s2.trans ((Stab.of s3).trans (s4.trans (Stab.of s5))))) q5⟩
      | _ => exact False.elim q5
  | _ => exact False.elim q3
theorem tv_tru (h : EV X Tb e m) (he : ∀ whole, isTrue e X.env whole = (do let v ← whole; standAt e.pos; holding [v] (truthy v)) := by intro _; rfl) : TV X Tb e (tTru m) := by
  obtain ⟨t, pa, h1⟩ := h.ex
  refine ⟨_, pt_truth pa he, fun W Oc H0 O H σ env Q P F hm hq => ?_⟩
  refine h1 W Oc H0 O H σ env _ _ F hm fun H1 x dx e1 F1 s1 r1 q1 => ?_
  cases dx with
  | non => rw [show x = _ from r1]; exact ⟨false, rfl, hq H1 _ e1 F1 s1 q1⟩
  | bl b => rw [show x = _ from r1]; exact ⟨b, rfl, hq H1 _ e1 F1 s1 q1⟩
  | int i => rw [show x = _ from r1]; exact ⟨i != 0, rfl, hq H1 _ e1 F1 s1 q1⟩
  | tup ds =>
    obtain ⟨a, vs, rfl, q, n, r⟩ := r1
    exact ⟨!ds.isEmpty, .inr (.inl ⟨vs, sqRd q, by rw [r.nil_iff]⟩), hq H1 _ e1 F1 s1 q1⟩
  | lst ds =>
    obtain ⟨a, vs, rfl, q, n, r⟩ := r1
    exact ⟨!ds.isEmpty, .inl ⟨vs, SqL.of q, by rw [r.nil_iff]⟩, hq H1 _ e1 F1 s1 q1⟩
  | _ => exact False.elim q1
theorem tw_tv {mt : MT} (h : TW X Tb e mt) : TV X Tb e mt := by
  obtain ⟨t, pa, h1⟩ := h.ex
  exact ⟨_, pa.pt, h1⟩
theorem tw_and1 {mt : MT} (h : TV X Tb a mt) : TW X Tb (.BoolOp .And [a] pos) mt := by
  obtain ⟨t, pa, h1⟩ := h.ex
  exact ⟨_, pw_and1 pa, h1⟩
theorem tw_or1 {mt : MT} (h : TV X Tb a mt) : TW X Tb (.BoolOp .Or [a] pos) mt := by
  obtain ⟨t, pa, h1⟩ := h.ex
  exact ⟨_, pw_or1 pa, h1⟩
theorem tw_and {m1 m2 : MT} {rest : List Expr} (ha : TV X Tb a m1) (hb : TW X Tb (.BoolOp .And (b :: rest) pos) m2) : TW X Tb (.BoolOp .And (a :: b :: rest) pos) (DL.tAnd m1 m2) := by
  obtain ⟨ta, pa, h1⟩ := ha.ex
  obtain ⟨tb, pb, h2⟩ := hb.ex
  refine ⟨_, pw_and pa pb, fun W Oc H0 O H σ env Q P F hm hq => ?_⟩
  refine h1 W Oc H0 O H σ env _ _ F hm fun H1 k e1 F1 s1 q1 => ?_
  cases k with
  | true => exact iteT (h2 W Oc H0 O H1 σ e1 _ _ F1 q1 fun H2 y e2 F2 s2 q2 => hq H2 y e2 F2 (s1.trans s2) q2)
  | false => exact iteF (hq H1 _ e1 F1 s1 q1)
theorem tw_or {m1 m2 : MT} {rest : List Expr} (ha : TV X Tb a m1) (hb : TW X Tb (.BoolOp .Or (b :: rest) pos) m2) : TW X Tb (.BoolOp .Or (a :: b :: rest) pos) (DL.tOr m1 m2) := by
  obtain ⟨ta, pa, h1⟩ := ha.ex
  obtain ⟨tb, pb, h2⟩ := hb.ex
  refine ⟨_, pw_or pa pb, fun W Oc H0 O H σ env Q P F hm hq => ?_⟩
  refine h1 W Oc H0 O H σ env _ _ F hm fun H1 k e1 F1 s1 q1 => ?_
  cases k with
  | false => exact iteF (h2 W Oc H0 O H1 σ e1 _ _ F1 q1 fun H2 y e2 F2 s2 q2 => hq H2 y e2 F2 (s1.trans s2) q2)
  | true => exact iteT (hq H1 _ e1 F1 s1 q1)
theorem tv_not {mt : MT} (h : TV X Tb a mt) : TV X Tb (.UnaryOp .Not a pos) (DL.tNot mt) := by
  obtain ⟨t, pa, h1⟩ := h.ex
  refine ⟨_, pt_not pa, fun W Oc H0 O H σ env Q P F hm hq => ?_⟩
  exact h1 W Oc H0 O H σ env _ _ F hm fun H1 k e1 F1 s1 q1 => hq H1 _ e1 F1 s1 q1

/-! ### calls -/
theorem ev_callB {x : Str} {id : String} {F : FD} (hc : CV X (.builtin id) F) (hg : Gl X x) (hm : X.mg x = none) (hv : bootBuiltins x = some (.builtin id)) (ha : AV X Tb (e :: es) mr) (hn : x ≠ "__name__" := by decide) (hdb : (x == ("__debug__" : Str)) = false := by decide)
    (he : starEach (e :: es) X.env = (false, eval e X.env) :: starEach es X.env := by rfl) (hpl : (backTo pos (starEach es X.env)).any (·.1) = false := by rfl) : EV X Tb (.Call (.Name x p) (e :: es) [] pos) (eCall F mr) := by
  obtain ⟨r, hr, h⟩ := hc
  obtain ⟨ta, pa, h1⟩ := ha.ex
  refine ⟨_, pe_callB hr hg hm hv pa hn hdb he hpl, fun W Oc H0 O H σ env Q P F hm hq => ?_⟩
  refine h1 W Oc H0 O H σ env _ _ F hm fun H1 xs ds e1 F1 s1 r1 q1 => ?_
  exact h W.Pl O H1 ds xs _ _ (fun p hp => F1.nO hp) r1 q1 fun H2 z d s2 r2 q2 => hq H2 z d e1 (F1.same s2) (s1.trans (Stab.of s2)) r2 q2
theorem ev_callTy {x : Str} {T : String} {F : FD} (hc : CV X (.type T) F) (hg : Gl X x) (hm : X.mg x = none) (hv : bootBuiltins x = some (.type T)) (ha : AV X Tb (e :: es) mr) (hn : x ≠ "__name__" := by decide) (hdb : (x == ("__debug__" : Str)) = false := by decide)
    (he : starEach (e :: es) X.env = (false, eval e X.env) :: starEach es X.env := by rfl) (hpl : (backTo pos (starEach es X.env)).any (·.1) = false := by rfl) : EV X Tb (.Call (.Name x p) (e :: es) [] pos) (eCall F mr) := by
  obtain ⟨r, hr, h⟩ := hc
  obtain ⟨ta, pa, h1⟩ := ha.ex
  refine ⟨_, pe_callTy hr hg hm hv pa hn hdb he hpl, fun W Oc H0 O H σ env Q P F hm hq => ?_⟩
  refine h1 W Oc H0 O H σ env _ _ F hm fun H1 xs ds e1 F1 s1 r1 q1 => ?_
  exact h W.Pl O H1 ds xs _ _ (fun p hp => F1.nO hp) r1 q1 fun H2 z d s2 r2 q2 => hq H2 z d e1 (F1.same s2) (s1.trans (Stab.of s2)) r2 q2
/-- a def's promise over data -/
def spD (K : PySem.W.Frag) (Tb : Addr → Prop) (F : FD) : Sp := fun vs H Q _ => ∃ (W : Wd K Tb) (Oc : Addr → Prop) (ds : List D) (P : D → Prop), W.G H ∧ (∀ a, W.Z a → Oc a) ∧ (∀ a, Oc a → ∃ o, H a = some o) ∧ Rps W Oc H ds vs ∧ F ds P ∧
  ∀ H' v d, Keep W H H' → Rp W Oc H' d v → P d → Q v H'
theorem ev_call {x : Str} {k : Nat} {f : Addr} {fd : FuncData} {ps : List Str} {F : FD} (hF : FnOk X.prog X.w X.K X.mg X.base CX0 k f fd ps (spD X.K Tb F)) (hr : Room k X.A) (hg : Gl X x) (hm : X.mg x = some (.ref f)) (hk : PySem.W.keepIn X.K (.ref f) = true) (hb : Binds X.K fd ps [])
    (ha : AV X Tb (e :: es) mr) (hdb : (x == ("__debug__" : Str)) = false := by decide) (he : starEach (e :: es) X.env = (false, eval e X.env) :: starEach es X.env := by rfl) (hpl : (backTo pos (starEach es X.env)).any (·.1) = false := by rfl) :
    EV X Tb (.Call (.Name x p) (e :: es) [] pos) (eCall F mr) := by
  obtain ⟨ta, pa, h1⟩ := ha.ex
  refine ⟨_, pe_call hF hr hg hm hk hb .nil pass0 pa hdb he hpl, fun W Oc H0 O H σ env Q P F hm hq => ?_⟩
  refine h1 W Oc H0 O H σ env _ _ F hm fun H1 xs ds e1 F1 s1 r1 q1 => ?_
  refine ⟨W, O, ds, _, F1.g, F1.zo, F1.dom, by rw [List.append_nil]; exact r1, q1, fun H2 v d k2 r2 q2 => ?_⟩
  exact hq H2 v d e1 (F1.keep k2) (s1.trans (k2.stab F1.zo)) r2 q2
theorem ev_call0 {x : Str} {k : Nat} {f : Addr} {fd : FuncData} {ps : List Str} {F : FD} (hF : FnOk X.prog X.w X.K X.mg X.base CX0 k f fd ps (spD X.K Tb F)) (hr : Room k X.A) (hg : Gl X x) (hm : X.mg x = some (.ref f)) (hk : PySem.W.keepIn X.K (.ref f) = true) (hb : Binds X.K fd ps [])
    (hdb : (x == ("__debug__" : Str)) = false := by decide) : EV X Tb (.Call (.Name x p) [] [] pos) (eCall F aNil) := by
  refine ⟨_, pe_call0 hF hr hg hm hk hb .nil pass0 hdb, fun W Oc H0 O H σ env Q P F hm hq => ?_⟩
  refine ⟨W, O, [], _, F.g, F.zo, F.dom, rfl, hm, fun H2 v d k2 r2 q2 => ?_⟩
  exact hq H2 v d env (F.keep k2) (k2.stab F.zo) r2 q2
end
end DL

set_option Elab.async false
set_option linter.all false
set_option autoImplicit false
set_option maxRecDepth 100000
/-! DL3: operators, built-ins, statements, the body of a def. -/
namespace DL
open PySem PySem.Spec PyProof.Rows L2
variable {X : Cx} {Tb : Addr → Prop}

/-! ### operators -/
section
theorem ov_ints {f : Value → Value → Sem Value} {g : Int → Int → V} {o : O2} {gd : Int → Int → D} (ho : OpR X f (rI0 g)) (hd : ∀ Pl O H i j, Rep X.K Pl O H (gd i j) (g i j))
    (h : ∀ x y P, o x y P → ∃ i j, x = .int i ∧ y = .int j ∧ P (gd i j)) : OV X f o := by
  refine ⟨_, ho, fun Pl O H x y v u Q P hO rx ry hm hq => ?_⟩
  obtain ⟨i, j, rfl, rfl, hp⟩ := h x y P hm
  exact ⟨i, j, rx, ry, hq H _ _ (Same.refl _) (hd Pl O H i j) hp⟩
theorem ov_intsC {f : Value → Value → Sem Value} {C : Int → Int → Prop} {g : Int → Int → V} {o : O2} {gd : Int → Int → D} (ho : OpR X f (rI C g)) (hd : ∀ Pl O H i j, Rep X.K Pl O H (gd i j) (g i j))
    (h : ∀ x y P, o x y P → ∃ i j, x = .int i ∧ y = .int j ∧ C i j ∧ P (gd i j)) : OV X f o := by
  refine ⟨_, ho, fun Pl O H x y v u Q P hO rx ry hm hq => ?_⟩
  obtain ⟨i, j, rfl, rfl, hc, hp⟩ := h x y P hm
  exact ⟨i, j, rx, ry, hc, hq H _ _ (Same.refl _) (hd Pl O H i j) hp⟩
theorem ov_sub : OV X (binaryOp .Sub) oSub := ov_ints op_sub (gd := fun i j => .int (i - j)) (fun _ _ _ _ _ => rfl) fun x y P h => by
  cases x <;> cases y <;> first | exact False.elim h | exact ⟨_, _, rfl, rfl, h⟩
theorem ov_mod : OV X (binaryOp .Mod) oMod := ov_intsC op_mod (gd := fun i j => .int (i % j)) (fun _ _ _ _ _ => rfl) fun x y P h => by
  cases x <;> cases y <;> first | exact False.elim h | exact ⟨_, _, rfl, rfl, h⟩
theorem log2_lt128 {j : Int} (h0 : 0 < j) (h : j < 340282366920938463463374607431768211456) : j.natAbs.log2 < 9000 := by
  have : j.natAbs.log2 < 128 := (Nat.log2_lt (by omega)).mpr (by omega)
  omega
theorem ov_div : OV X (binaryOp .FloorDiv) oDiv := ov_intsC op_fdivW (gd := fun i j => .int (i / j)) (fun _ _ _ _ _ => rfl) fun x y P h => by
  cases x <;> cases y <;> first | exact False.elim h | exact ⟨_, _, rfl, rfl, ⟨h.1, log2_lt128 h.1 h.2.1⟩, h.2.2⟩
theorem ov_le : OV X (compareOp .LtE) oLe := ov_ints op_le (gd := fun i j => .bl (decide (i ≤ j))) (fun _ _ _ _ _ => rfl) fun x y P h => by
  cases x <;> cases y <;> first | exact False.elim h | exact ⟨_, _, rfl, rfl, h⟩
theorem ov_gt : OV X (compareOp .Gt) oGt := ov_ints op_gt (gd := fun i j => .bl (decide (j < i))) (fun _ _ _ _ _ => rfl) fun x y P h => by
  cases x <;> cases y <;> first | exact False.elim h | exact ⟨_, _, rfl, rfl, h⟩
theorem ov_ge : OV X (compareOp .GtE) oGe := ov_ints op_ge (gd := fun i j => .bl (decide (j ≤ i))) (fun _ _ _ _ _ => rfl) fun x y P h => by
  cases x <;> cases y <;> first | exact False.elim h | exact ⟨_, _, rfl, rfl, h⟩
theorem ov_iadd : OV X (inplaceOp .Add) oIAdd := ov_ints iop_add (gd := fun i j => .int (i + j)) (fun _ _ _ _ _ => rfl) fun x y P h => by
  cases x <;> cases y <;> first | exact False.elim h | exact ⟨_, _, rfl, rfl, h⟩
theorem rep_new_tup {K : PySem.W.Frag} {Pl O : Addr → Prop} {H : Hp} {ds : List D} {vs : List V} {p : Addr} (hO : ∀ p, H p = none → ¬ O p) (r : Reps K Pl O H ds vs) (h : H p = none) : Rep K Pl O (upd H p (.tup vs)) (.tup ds) (.ref p) :=
  ⟨p, vs, rfl, .inl upd_same, hO p h, Reps.stab (Stab.of (same_upd h)) r⟩
theorem rep_new_lst {K : PySem.W.Frag} {Pl O : Addr → Prop} {H : Hp} {ds : List D} {vs : List V} {p : Addr} (hO : ∀ p, H p = none → ¬ O p) (r : Reps K Pl O H ds vs) (h : H p = none) : Rep K Pl O (upd H p (.lst vs)) (.lst ds) (.ref p) :=
  ⟨p, vs, rfl, upd_same, hO p h, Reps.stab (Stab.of (same_upd h)) r⟩
theorem ov_add : OV X (binaryOp .Add) oAdd := by
  refine ⟨_, op_add.or (op_catA.or (op_cat.or op_add_str)), fun Pl O H x y v u Q P hO rx ry h hq => ?_⟩
  cases x <;> cases y <;> first | exact False.elim h | skip
  · exact .inl ⟨_, _, rx, ry, hq H _ (.int _) (Same.refl _) rfl h⟩
  · exact .inr (.inr (.inr ⟨_, _, rx, ry, by rw [← ln_eq]; exact h.1, hq H _ (.str _) (Same.refl _) rfl h.2⟩))
  · rename_i ds es
    obtain ⟨a, vs, rfl, qa, na, ra⟩ := id rx
    obtain ⟨b, us, rfl, qb, nb, rb⟩ := id ry
    refine .inr (.inl ⟨a, b, vs, us, rfl, rfl, sqRd qa, sqRd qb, by rw [ra.length, rb.length, ← ln_eq]; exact h.1, fun e => ?_, fun _ e => ?_, fun _ _ p hp => ?_⟩)
    · have : ds = [] := by
        have := ra.length
        rw [e] at this
        exact List.eq_nil_of_length_eq_zero this.symm
      subst this
      exact hq H _ _ (Same.refl _) ry (by simpa using h.2)
    · have : es = [] := by
        have := rb.length
        rw [e] at this
        exact List.eq_nil_of_length_eq_zero this.symm
      subst this
      exact hq H _ _ (Same.refl _) rx (by simpa using h.2)
    · exact hq _ _ _ (same_upd hp) (rep_new_tup hO (ra.app rb) hp) h.2
  · obtain ⟨a, vs, rfl, qa, na, ra⟩ := id rx
    obtain ⟨b, us, rfl, qb, nb, rb⟩ := id ry
    refine .inr (.inr (.inl ⟨a, b, vs, us, rfl, rfl, qa, qb, by rw [ra.length, rb.length, ← ln_eq]; exact h.1, fun p hp => ?_⟩))
    exact hq _ _ _ (same_upd hp) (rep_new_lst hO (ra.app rb) hp) h.2
theorem ov_eq (hu : X.A.units + 64 < cLine) : OV X (compareOp .Eq) oEq := by
  refine ⟨_, op_eqD hu, fun Pl O H x y v u Q P hO rx ry h hq => ?_⟩
  obtain ⟨h1, h2, h⟩ := h
  exact ⟨toPy x, toPy y, dp_of _ _ _ h1 rx, dp_of _ _ _ h2 ry, shaped_of h1, shaped_of h2, hq H _ (.bl _) (Same.refl _) (by rw [← peq_py _ _ _ h1 h2]; rfl) h⟩
theorem ov_ne (hu : X.A.units + 64 < cLine) : OV X (compareOp .NotEq) oNe := by
  refine ⟨_, op_neD hu, fun Pl O H x y v u Q P hO rx ry h hq => ?_⟩
  obtain ⟨h1, h2, h⟩ := h
  exact ⟨toPy x, toPy y, dp_of _ _ _ h1 rx, dp_of _ _ _ h2 ry, shaped_of h1, shaped_of h2, hq H _ (.bl _) (Same.refl _) (by rw [← peq_py _ _ _ h1 h2]; rfl) h⟩
theorem ov_isN : OV X (compareOp .Is) oIs := by
  refine ⟨_, op_isN, fun Pl O H x y v u Q P hO rx ry h hq => ?_⟩
  obtain ⟨rfl, h⟩ := h
  refine ⟨ry, hq H _ (.bl _) (Same.refl _) ?_ h⟩
  show V.bl (decide (v = .non)) = .bl (isNon x)
  cases x <;> first
    | (rw [show v = _ from rx]; rfl)
    | (obtain ⟨_, _, a, rfl, _⟩ := rx; rfl)
    | (obtain ⟨a, vs, rfl, _⟩ := rx; rfl)
    | exact False.elim rx
    | (obtain ⟨a, rfl, _⟩ := rx; rfl)
theorem ov_notN : OV X (compareOp .IsNot) oIsNot := by
  refine ⟨_, op_notN, fun Pl O H x y v u Q P hO rx ry h hq => ?_⟩
  obtain ⟨rfl, h⟩ := h
  refine ⟨ry, hq H _ (.bl _) (Same.refl _) ?_ h⟩
  show V.bl (!decide (v = .non)) = .bl (!isNon x)
  cases x <;> first
    | (rw [show v = _ from rx]; rfl)
    | (obtain ⟨_, _, a, rfl, _⟩ := rx; rfl)
    | (obtain ⟨a, vs, rfl, _⟩ := rx; rfl)
    | exact False.elim rx
    | (obtain ⟨a, rfl, _⟩ := rx; rfl)
theorem uv_neg : UV X (unaryOp .USub) oNeg := by
  refine ⟨_, un_neg, fun Pl O H x v Q P hO rx h hq => ?_⟩
  cases x <;> first | exact False.elim h | exact ⟨_, rx, hq H _ (.int _) (Same.refl _) rfl h⟩
theorem ixN_eq (n : Nat) (i : Int) : L2.ixN n i = DL.ixN n i := rfl
theorem atI_of {ds : List D} {vs : List V} {K : PySem.W.Frag} {Pl O : Addr → Prop} {H : Hp} {i : Int} {d : D} (r : Reps K Pl O H ds vs) (h : DL.atI ds i = some d) : ∃ v, L2.atI vs i = some v ∧ Rep K Pl O H d v := by
  unfold DL.atI at h
  unfold L2.atI
  rw [r.length, ixN_eq]
  cases e : DL.ixN ds.length i with
  | none => rw [e] at h; cases h
  | some j =>
    rw [e] at h
    obtain ⟨v, h1, h2⟩ := r.get (show ds[j]? = some d from h)
    exact ⟨v, h1, h2⟩
theorem ix_ok : ∃ r, IxR X r ∧ ∀ (Pl O : Addr → Prop) (H : Hp) (x y : D) (v u : V) (Q : VK) (P : D → Prop), (∀ p, H p = none → ¬ O p) → Rep X.K Pl O H x v → Rep X.K Pl O H y u → oIx x y P →
    (∀ H' z d, Same H H' → Rep X.K Pl O H' d z → P d → Q z H') → r v u H Q := by
  refine ⟨_, ix_seq, fun Pl O H x y v u Q P hO rx ry h hq => ?_⟩
  cases x <;> cases y <;> first | exact False.elim h | skip
  · obtain ⟨hz, c, e, hp⟩ := h
    exact .inr (.inr ⟨_, _, c, rx, ry, by rw [← ln_eq]; exact hz, e, hq H _ (.str _) (Same.refl _) rfl hp⟩)
  · obtain ⟨a, vs, rfl, qa, na, ra⟩ := rx
    obtain ⟨d, e, hp⟩ := h
    obtain ⟨w, e1, rw'⟩ := atI_of ra e
    exact .inr (.inl ⟨a, vs, _, w, rfl, ry, sqRd qa, e1, hq H w d (Same.refl _) rw' hp⟩)
  · obtain ⟨a, vs, rfl, qa, na, ra⟩ := rx
    obtain ⟨d, e, hp⟩ := h
    obtain ⟨w, e1, rw'⟩ := atI_of ra e
    exact .inl ⟨a, vs, _, w, rfl, ry, SqL.of qa, e1, hq H w d (Same.refl _) rw' hp⟩
theorem cv_len : CV X (.builtin "len") fLen := by
  refine ⟨_, call_len_seq.or call_len_str, fun Pl O H ds vs Q P hO r h hq => ?_⟩
  unfold fLen at h
  split at h
  · rename_i xs
    obtain ⟨v, us, rfl, ⟨a, ws, rfl, qa, na, ra⟩, e⟩ := r
    cases e
    exact .inl ⟨a, ws, rfl, .inr (sqRd qa), by rw [ra.length]; exact hq H _ (.int _) (Same.refl _) rfl h⟩
  · rename_i xs
    obtain ⟨v, us, rfl, ⟨a, ws, rfl, qa, na, ra⟩, e⟩ := r
    cases e
    exact .inl ⟨a, ws, rfl, .inl (SqL.of qa), by rw [ra.length]; exact hq H _ (.int _) (Same.refl _) rfl h⟩
  · obtain ⟨v, us, rfl, e1, e⟩ := r
    cases e
    cases (show v = _ from e1)
    exact .inr ⟨_, rfl, by rw [← ln_eq]; exact h.1, hq H _ (.int _) (Same.refl _) rfl h.2⟩
  · exact False.elim h
theorem frz_sq {K : PySem.W.Frag} {O : Addr → Prop} {H : Hp} {a : Addr} {xs : List V} (h : (Rd H a (.lst xs) ∧ ¬ O a) ∨ SqL K (fun _ => none) a xs) : SqL K H a xs := by
  rcases h with h | h | h
  · exact .inl h.1
  · rcases h with h | ⟨o, h⟩ <;> cases h
  · exact .inr h
theorem reps_ints {K : PySem.W.Frag} {Pl O : Addr → Prop} {H : Hp} (ns : List Int) : Reps K Pl O H (ns.map D.int) (ns.map V.int) := by
  induction ns with
  | nil => rfl
  | cons n ns ih => exact ⟨_, _, rfl, rfl, ih⟩
theorem cv_list : CV X (.type "list") fList := by
  refine ⟨_, call_list_of, fun Pl O H ds vs Q P hO r h hq => ?_⟩
  unfold fList at h
  split at h
  · obtain ⟨v, us, rfl, ⟨a, ws, rfl, qa, na, ra⟩, e⟩ := r
    cases e
    exact ⟨a, ws, rfl, .inr (sqRd qa), fun l hl => hq _ _ _ (same_upd hl) (rep_new_lst hO ra hl) h⟩
  · obtain ⟨v, us, rfl, ⟨a, ws, rfl, qa, na, ra⟩, e⟩ := r
    cases e
    exact ⟨a, ws, rfl, .inl (SqL.of qa), fun l hl => hq _ _ _ (same_upd hl) (rep_new_lst hO ra hl) h⟩
  · obtain ⟨v, us, rfl, ⟨a, rfl, qa⟩, e⟩ := r
    cases e
    exact ⟨a, _, rfl, .inl (frz_sq qa), fun l hl => hq _ _ _ (same_upd hl) (rep_new_lst hO (reps_ints _) hl) h⟩
  · exact False.elim h
theorem cv_tuple : CV X (.type "tuple") fTuple := by
  refine ⟨_, call_tuple_of, fun Pl O H ds vs Q P hO r h hq => ?_⟩
  unfold fTuple at h
  split at h
  · obtain ⟨v, us, rfl, r1, e⟩ := r
    cases e
    obtain ⟨a, ws, rfl, qa, na, ra⟩ := id r1
    exact ⟨a, ws, rfl, .inr ⟨sqRd qa, hq H _ _ (Same.refl _) r1 h⟩⟩
  · obtain ⟨v, us, rfl, ⟨a, ws, rfl, qa, na, ra⟩, e⟩ := r
    cases e
    exact ⟨a, ws, rfl, .inl ⟨SqL.of qa, fun l hl => hq _ _ _ (same_upd hl) (rep_new_tup hO ra hl) h⟩⟩
  · exact False.elim h
theorem cv_int : CV X (.type "int") fInt := by
  refine ⟨_, call_int1, fun Pl O H ds vs Q P hO r h hq => ?_⟩
  unfold fInt at h
  split at h
  · obtain ⟨v, us, rfl, r1, e⟩ := r
    cases e
    exact .inl ⟨_, by rw [show v = _ from r1], hq H _ (.int _) (Same.refl _) rfl h⟩
  · obtain ⟨v, us, rfl, r1, e⟩ := r
    cases e
    exact .inr ⟨_, by rw [show v = _ from r1], hq H _ (.int _) (Same.refl _) rfl h⟩
  · exact False.elim h
end

/-! ### isinstance -/
def tyName : D → String
  | .non => "NoneType"
  | .bl _ => "bool"
  | .int _ => "int"
  | .str _ => "str"
  | .tup _ => "tuple"
  | .lst _ => "list"
  | _ => "dict"
def Ty.name : Ty → String
  | .int => "int" | .bool => "bool" | .str => "str" | .tuple => "tuple" | .list => "list"
theorem isA_kit (K : PySem.W.Frag) : ∀ (d : D) (t : Ty) (b : Bool), isA d t = some b → PySem.W.kitOne K (.type (tyName d)) (.type t.name) = some b := by
  intro d t b h
  refine kit_ty ?_
  cases d <;> cases t <;> first
    | (cases h; done)
    | (obtain rfl := Option.some.inj h; simp only [tyName, Ty.name]; decide +kernel)
theorem tyX_of {K : PySem.W.Frag} {Pl O : Addr → Prop} {H : Hp} {d : D} {v : V} {t : Ty} {b : Bool} (r : Rep K Pl O H d v) (h : isA d t = some b) : TyX K H v (.type (tyName d)) := by
  cases d with
  | non => rw [show v = _ from r]; exact .base .non
  | bl k => rw [show v = _ from r]; exact .base (.bl k)
  | int i => rw [show v = _ from r]; exact .base (.int i)
  | str s => rw [show v = _ from r]; exact .base (.str s)
  | tup ds =>
    obtain ⟨a, vs, rfl, q | ⟨o, q⟩, _⟩ := r
    · exact .base (.tup q)
    · exact .fTuple q
  | rnk _ => cases h
  | gd _ _ => cases h
  | lst ds => obtain ⟨a, vs, rfl, q, _⟩ := r; exact .base (.lst q)
  | dct _ _ => obtain ⟨a, rfl, _, ⟨m, q, _⟩ | ⟨m, q, _⟩⟩ := r
               · exact .base (.dK q)
               · exact .base (.dT q)
  | pool => cases h
  | frz _ => cases h
section
variable {e : Expr} {m : ME} {pos p p2 : Pos}
theorem ev_isA {x : Str} (t : Ty) (hx : bootBuiltins x = some (.type t.name)) (hg : Gl X "isinstance") (hm : X.mg "isinstance" = none) (hgT : Gl X x) (hmT : X.mg x = none) (he : EV X Tb e m) (hn : x ≠ "__name__" := by decide) (hdb : (x == ("__debug__" : Str)) = false := by decide)
    (hs : starEach [e, .Name x p2] X.env = (false, eval e X.env) :: starEach [.Name x p2] X.env := by rfl) (hs2 : starEach [.Name x p2] X.env = (false, eval (.Name x p2) X.env) :: starEach [] X.env := by rfl)
    (hpl : (backTo pos (starEach [.Name x p2] X.env)).any (·.1) = false := by rfl) : EV X Tb (.Call (.Name "isinstance" p) [e, .Name x p2] [] pos) (eUn (oIsA t) m) := by
  obtain ⟨ta, pa, h1⟩ := he.ex
  refine ⟨_, pe_callB call_isi hg hm (by decide +kernel) (pa_cons pa (pa_cons (pe_bltn (v := .ty t.name) hgT hmT hx rfl hn hdb) pa_nil hs2) hs) (by decide) (by decide) hs hpl, fun W Oc H0 O H σ env Q P F hm hq => ?_⟩
  refine h1 W Oc H0 O H σ env _ _ F hm fun H1 v d e1 F1 s1 r1 q1 => ?_
  unfold oIsA at q1
  split at q1
  · rename_i b hb
    exact ⟨v, .ty t.name, .type (tyName d), .type t.name, b, rfl, .ty _, tyX_of r1 hb, isA_kit X.K d t b hb, hq H1 _ (.bl b) e1 F1 s1 rfl q1⟩
  · exact False.elim q1
end

theorem lexAt_lt : ∀ (ns ms : List Int) (off : Nat) (e r : Nat → Bool), (∀ j, e (off + j) = decide (ns.getD j 0 = ms.getD j 0)) → (∀ j, r (off + j) = decide (ns.getD j 0 < ms.getD j 0)) →
    Ob.lexAt e r (decide (ns.length < ms.length)) off (min ns.length ms.length) = lexLt ns ms
  | [], [], _, _, _, _, _ => rfl
  | [], _ :: _, _, _, _, _, _ => by simp [Ob.lexAt, lexLt]
  | _ :: _, [], _, _, _, _, _ => by simp [Ob.lexAt, lexLt]
  | x :: ns, y :: ms, off, e, r, he, hr => by
    have e0 := he 0
    have r0 := hr 0
    rw [Nat.add_zero] at e0 r0
    have ih := lexAt_lt ns ms (off + 1) e r (fun j => by have := he (j + 1); rw [show off + 1 + j = off + (j + 1) by omega, this]; rfl) (fun j => by have := hr (j + 1); rw [show off + 1 + j = off + (j + 1) by omega, this]; rfl)
    have em : min (x :: ns).length (y :: ms).length = min ns.length ms.length + 1 := by simp only [List.length_cons]; omega
    rw [em, Ob.lexAt_succ, e0, r0]
    have ez : decide ((x :: ns).length < (y :: ms).length) = decide (ns.length < ms.length) := by simp
    rw [ez, ih]
    show (if decide (x = y) = true then lexLt ns ms else decide (x < y)) = if x = y then lexLt ns ms else decide (x < y)
    by_cases h : x = y <;> simp [h]
def rLtT (K : PySem.W.Frag) : R2 := fun x y H Q => ∃ (a b : Addr) (ns ms : List Int), x = .ref a ∧ y = .ref b ∧ SqT K H a (ns.map V.int) ∧ SqT K H b (ms.map V.int) ∧ Q (.bl (lexLt ns ms)) H
theorem op_ltT (hu : X.A.units < cLine) : OpR X (compareOp .Lt) (rLtT X.K) := by
  intro pins s σ H x y v u Q I rx ry h
  obtain ⟨a, b, ns, ms, rfl, rfl, ha, hb, q⟩ := h
  cases rx
  cases ry
  obtain ⟨its, r1, p1, _⟩ := I.tuple ha
  obtain ⟨its2, r2, p2, _⟩ := I.tuple hb
  have i1 : IntsAre its ns := Vals.ints r1
  have i2 : IntsAre its2 ms := Vals.ints r2
  have e1 : its.toArray.size = ns.length := by rw [List.size_toArray]; exact i1.length
  have e2 : its2.toArray.size = ms.length := by rw [List.size_toArray]; exact i2.length
  have at1 : ∀ j (h1 : j < its.toArray.size), ∃ t, its.toArray[j] = .int (ns.getD j 0) t := fun j h1 => PyProof.Rows.IntsAre.int_at i1 _ _ (by simp at h1; simp [h1])
  have at2 : ∀ j (h1 : j < its2.toArray.size), ∃ t, its2.toArray[j] = .int (ms.getD j 0) t := fun j h1 => PyProof.Rows.IntsAre.int_at i2 _ _ (by simp at h1; simp [h1])
  have R := Ob.RcOp.tuples_lt (A := X.A) (s := s) (e := fun j => decide (ns.getD j 0 = ms.getD j 0)) (r := fun j => decide (ns.getD j 0 < ms.getD j 0)) p1 p2 hu (fun j h1 h2 => by
    obtain ⟨t, et⟩ := at1 j h1
    obtain ⟨t', et'⟩ := at2 j h2
    rw [et, et']
    have z : (ns.getD j 0 == ms.getD j 0) = decide (ns.getD j 0 = ms.getD j 0) := by
      by_cases q : ns.getD j 0 = ms.getD j 0
      · rw [decide_eq_true q]; exact beq_iff_eq.mpr q
      · rw [decide_eq_false q]; exact beq_eq_false_iff_ne.mpr q
    rw [← z]
    exact SeqAt.EqAt.int_int _ _ _ _) (fun j h1 h2 _ => by
    obtain ⟨t, et⟩ := at1 j h1
    obtain ⟨t', et'⟩ := at2 j h2
    rw [et, et']
    exact Ob.RcOp.lt_int _ _ _ _)
  rw [e1, e2, lexAt_lt ns ms 0 _ _ (fun j => by rw [Nat.zero_add]) (fun j => by rw [Nat.zero_add])] at R
  have z : wpAny (model X.prog X.w) X.A (compareOp .Lt (.ref a) (.ref b)) (EP X pins σ Q) X.xe s := R X.prog X.w X.xe (EP X pins σ Q) ⟨.bl _, H, I, rfl, q⟩
  exact z
theorem ints_vs {K : PySem.W.Frag} {Pl O : Addr → Prop} {H : Hp} : ∀ {ns : List Int} {us : List V}, Reps K Pl O H (ns.map D.int) us → us = ns.map V.int
  | [], _, h => h
  | n :: ns, _, h => by
    obtain ⟨v, r, rfl, e, ru⟩ := h
    cases (show v = _ from e)
    rw [ints_vs ru]; rfl
theorem ov_lt (hu : X.A.units + 64 < cLine) : OV X (compareOp .Lt) oLt := by
  refine ⟨_, op_lt.or (op_ltT (by omega)), fun Pl O H x y v u Q P hO rx ry h hq => ?_⟩
  cases x <;> cases y <;> first | exact False.elim h | skip
  · exact .inl ⟨_, _, rx, ry, hq H _ (.bl _) (Same.refl _) rfl h⟩
  · obtain ⟨ns, ms, rfl, rfl, h⟩ := h
    obtain ⟨a, vs, rfl, qa, na, ra⟩ := rx
    obtain ⟨b, us, rfl, qb, nb, rb⟩ := ry
    rw [ints_vs ra] at qa
    rw [ints_vs rb] at qb
    exact .inr ⟨a, b, ns, ms, rfl, rfl, sqRd qa, sqRd qb, hq H _ (.bl _) (Same.refl _) rfl h⟩

/-! ### statements -/
structure EndsOk {K : PySem.W.Frag} (W : Wd K Tb) (Oc : Addr → Prop) (H0 : Hp) (O : Addr → Prop) (H : Hp) (D : Ends) (E : DEnds) : Prop where
  nx : ∀ O' H' σ' env', FR W Oc H0 O' H' σ' env' → Mv O H O' H' → E.nx env' → D.nx σ' H'
  rt : ∀ H' v d, Keep W H0 H' → Rp W Oc H' d v → E.rt d → D.rt v H'
  bk : ∀ O' H' σ' env', FR W Oc H0 O' H' σ' env' → Mv O H O' H' → E.bk env' → D.bk σ' H'
  ct : ∀ O' H' σ' env', FR W Oc H0 O' H' σ' env' → Mv O H O' H' → E.ct env' → D.ct σ' H'
  rn : ∀ H' p vs ds, Keep W H0 H' → H0 p = none → ¬ Oc p → H' p = some (.lst vs) → Rps W (fun a => Oc a ∨ a = p) H' ds vs → E.rn ds → D.rt (.ref p) H'
theorem EndsOk.mv {K : PySem.W.Frag} {W : Wd K Tb} {Oc : Addr → Prop} {H0 : Hp} {O : Addr → Prop} {H : Hp} {O1 : Addr → Prop} {H1 : Hp} {D : Ends} {E : DEnds} (k : EndsOk W Oc H0 O H D E) (m : Mv O H O1 H1) : EndsOk W Oc H0 O1 H1 D E :=
  ⟨fun O' H' σ' env' F m' => k.nx O' H' σ' env' F (m.trans m'), k.rt, fun O' H' σ' env' F m' => k.bk O' H' σ' env' F (m.trans m'), fun O' H' σ' env' F m' => k.ct O' H' σ' env' F (m.trans m'), k.rn⟩
structure SV (X : Cx) (Tb : Addr → Prop) (st : Stmt) (m : MS) : Prop where
  ex : ∃ t, PS X st t ∧ ∀ (W : Wd X.K Tb) (Oc : Addr → Prop) (H0 : Hp) (O : Addr → Prop) (H : Hp) (σ : St) (env : DEnv) (D : Ends) (E : DEnds), FR W Oc H0 O H σ env → m E env → EndsOk W Oc H0 O H D E → t D σ H
structure BV (X : Cx) (Tb : Addr → Prop) (st : List Stmt) (m : MS) : Prop where
  ex : ∃ t, PSs X st t ∧ ∀ (W : Wd X.K Tb) (Oc : Addr → Prop) (H0 : Hp) (O : Addr → Prop) (H : Hp) (σ : St) (env : DEnv) (D : Ends) (E : DEnds), FR W Oc H0 O H σ env → m E env → EndsOk W Oc H0 O H D E → t D σ H
structure GV (X : Cx) (Tb : Addr → Prop) (tg : Expr) (mg : MG) (us : List Nat) : Prop where
  ex : ∃ g, PG X tg g ∧ ∀ (W : Wd X.K Tb) (Oc : Addr → Prop) (H0 : Hp) (O : Addr → Prop) (H : Hp) (σ : St) (env : DEnv) (d : D) (v : V) (Q : St → Hp → Prop) (P : DEnv → Prop), FR W Oc H0 O H σ env → Rp W O H d v → mg d env P →
    (∀ H' σ' env', FR W Oc H0 O H' σ' env' → Stab O H H' → (∀ ws : List Nat, (∀ i ∈ us, i ∈ ws) → L2.wipe σ' ws = L2.wipe σ ws) → P env' → Q σ' H') → g v σ H Q
structure GVs (X : Cx) (Tb : Addr → Prop) (ts : List Expr) (mg : List D → DEnv → (DEnv → Prop) → Prop) (us : List Nat) : Prop where
  ex : ∃ g, PGs X ts g ∧ ∀ (W : Wd X.K Tb) (Oc : Addr → Prop) (H0 : Hp) (O : Addr → Prop) (H : Hp) (σ : St) (env : DEnv) (ds : List D) (vs : List V) (Q : St → Hp → Prop) (P : DEnv → Prop), FR W Oc H0 O H σ env → Rps W O H ds vs → mg ds env P →
    (∀ H' σ' env', FR W Oc H0 O H' σ' env' → Stab O H H' → (∀ ws : List Nat, (∀ i ∈ us, i ∈ ws) → L2.wipe σ' ws = L2.wipe σ ws) → P env' → Q σ' H') → g vs σ H Q
section
variable {st : Stmt} {rest : List Stmt} {ms mr m1 m2 : MS} {e : Expr} {m : ME} {pos : Pos}
theorem FR.rt {K : PySem.W.Frag} {W : Wd K Tb} {Oc O : Addr → Prop} {H0 H : Hp} {σ : St} {env : DEnv} (F : FR W Oc H0 O H σ env) : Keep W H0 H := ⟨F.g, F.kept⟩
theorem bv_nil : BV X Tb [] sNop := ⟨_, pss_nil, fun W Oc H0 O H σ env D E F h k => k.nx O H σ env F Mv.refl h⟩
theorem bv_one (h : SV X Tb st ms) : BV X Tb [st] ms := by
  obtain ⟨t, p, h⟩ := h.ex
  exact ⟨_, pss_one p, h⟩
theorem bv_cons (h1 : SV X Tb st m1) (h2 : BV X Tb rest m2) : BV X Tb (st :: rest) (sSeq m1 m2) := by
  obtain ⟨t, p, h1⟩ := h1.ex
  obtain ⟨u, q, h2⟩ := h2.ex
  refine ⟨_, pss_cons p q, fun W Oc H0 O H σ env D E F h k => ?_⟩
  refine h1 W Oc H0 O H σ env _ { E with nx := fun e => m2 E e } F h ⟨fun O' H' σ' env' F' mv hn => ?_, k.rt, k.bk, k.ct, k.rn⟩
  exact h2 W Oc H0 O' H' σ' env' D E F' hn (k.mv mv)
theorem sv_pass : SV X Tb (.Pass pos) sNop := ⟨_, ps_pass, fun W Oc H0 O H σ env D E F h k => k.nx O H σ env F Mv.refl h⟩
theorem sv_break : SV X Tb (.Break pos) sBreak := ⟨_, ps_break, fun W Oc H0 O H σ env D E F h k => k.bk O H σ env F Mv.refl h⟩
theorem sv_continue : SV X Tb (.Continue pos) sCont := ⟨_, ps_continue, fun W Oc H0 O H σ env D E F h k => k.ct O H σ env F Mv.refl h⟩
theorem sv_ret (h : EV X Tb e m) : SV X Tb (.Return (some e) pos) (sRet m) := by
  obtain ⟨t, p, h⟩ := h.ex
  refine ⟨_, ps_ret p, fun W Oc H0 O H σ env D E F hm k => ?_⟩
  refine h W Oc H0 O H σ env _ _ F hm fun H1 v d e1 F1 s1 r1 q1 => ?_
  exact k.rt H1 v d F1.rt (Rep.weak F1.oc r1) q1
theorem sv_retN : SV X Tb (.Return none pos) sRetN := ⟨_, ps_retN, fun W Oc H0 O H σ env D E F h k => k.rt H _ .non F.rt rfl h⟩
theorem sv_if {c : Expr} {a b : List Stmt} {mc : MT} (hc : TV X Tb c mc) (ha : BV X Tb a m1) (hb : BV X Tb b m2) : SV X Tb (.If c a b pos) (sIf mc m1 m2) := by
  obtain ⟨tc, pc, hc⟩ := hc.ex
  obtain ⟨ta, pa, ha⟩ := ha.ex
  obtain ⟨tb, pb, hb⟩ := hb.ex
  refine ⟨_, ps_if pc pa pb, fun W Oc H0 O H σ env D E F hm k => ?_⟩
  refine hc W Oc H0 O H σ env _ _ F hm fun H1 c e1 F1 s1 q1 => ?_
  cases c with
  | true => exact iteT (ha W Oc H0 O H1 σ e1 D E F1 q1 (k.mv (Mv.of s1)))
  | false => exact iteF (hb W Oc H0 O H1 σ e1 D E F1 q1 (k.mv (Mv.of s1)))
theorem sv_expr (h : EV X Tb e m) (hs : swapsWith e none pos.line X.env = pure false := by rfl) : SV X Tb (.Expr e pos) (sExpr m) := by
  obtain ⟨t, p, h⟩ := h.ex
  refine ⟨_, ps_expr p hs, fun W Oc H0 O H σ env D E F hm k => ?_⟩
  refine h W Oc H0 O H σ env _ _ F hm fun H1 v d e1 F1 s1 r1 q1 => ?_
  exact k.nx O H1 σ e1 F1 (Mv.of s1) q1
theorem FR.ilt {K : PySem.W.Frag} {W : Wd K Tb} {Oc O : Addr → Prop} {H0 H : Hp} {σ : St} {env : DEnv} (F : FR W Oc H0 O H σ env) {i : Nat} {d : D} {v : V} (r : Rp W O H d v) : FR W Oc H0 O H (σ.set i (some v)) (env.set i (some (.val d))) := by
  by_cases h : i < env.length
  · exact F.set h r
  · rw [List.set_eq_of_length_le (Nat.le_of_not_lt fun z => h (by rw [F.len]; exact z)), List.set_eq_of_length_le (Nat.le_of_not_lt h)]
    exact F
theorem wipe_get (σ : St) (j : Nat) : ∀ ws : List Nat, (L2.wipe σ ws)[j]? = if j ∈ ws then σ[j]?.map (fun _ => none) else σ[j]?
  | [] => by simp [L2.wipe]
  | w :: ws => by
    have ih := wipe_get σ j ws
    unfold L2.wipe
    by_cases h : w = j
    · subst h
      rw [List.getElem?_set_self', ih]
      by_cases h2 : w ∈ ws
      · rw [if_pos h2]; cases σ[w]? <;> simp
      · rw [if_neg h2]; cases σ[w]? <;> simp
    · rw [List.getElem?_set_ne h, ih]
      have : (j ∈ w :: ws) ↔ j ∈ ws := by simp [Ne.symm h]
      by_cases h2 : j ∈ ws
      · rw [if_pos h2, if_pos (this.mpr h2)]
      · rw [if_neg h2, if_neg fun z => h2 (this.mp z)]
theorem wipe_set {σ : St} {i : Nat} {x : Option V} {ws : List Nat} (h : i ∈ ws) : L2.wipe (σ.set i x) ws = L2.wipe σ ws := by
  refine List.ext_getElem? fun j => ?_
  rw [wipe_get, wipe_get]
  by_cases hj : i = j
  · subst hj
    rw [if_pos h, if_pos h, List.getElem?_set_self']
    cases σ[i]? <;> rfl
  · rw [List.getElem?_set_ne hj]
theorem gv_name {i : Nat} {x : Str} (hN : X.N.Nodup) (hi : X.N[i]? = some x) (hx : Loc X.env.scope x) (hf : X.fn x = true ∨ X.env.scope.names.lookup x = some .local := by first | exact .inl rfl | exact .inr rfl | assumption) : GV X Tb (.Name x pos) (DL.gName i) [i] :=
  ⟨_, pg_name hN hi hx hf, fun W Oc H0 O H σ env d v Q P F r h hq => hq H _ _ (F.ilt r) Stab.refl (fun ws hw => wipe_set (hw i (by simp))) h⟩
theorem gvs_nil : GVs X Tb [] DL.gNil [] := ⟨_, pgs_nil, fun W Oc H0 O H σ env ds vs Q P F r h hq => by
  obtain ⟨rfl, h⟩ := h
  exact ⟨r, hq H σ env F Stab.refl (fun _ _ => rfl) h⟩⟩
theorem gvs_cons {t : Expr} {ts : List Expr} {g : MG} {gs : List D → DEnv → (DEnv → Prop) → Prop} {us us2 : List Nat} (h1 : GV X Tb t g us) (h2 : GVs X Tb ts gs us2)
    (hs : (assignEach (t :: ts) X.env).map (·.2) = assign t X.env :: (assignEach ts X.env).map (·.2) := by rfl) : GVs X Tb (t :: ts) (DL.gCons g gs) (us ++ us2) := by
  obtain ⟨g1, p1, h1⟩ := h1.ex
  obtain ⟨g2, p2, h2⟩ := h2.ex
  refine ⟨_, pgs_cons p1 p2 hs, fun W Oc H0 O H σ env ds vs Q P F r h hq => ?_⟩
  cases ds with
  | nil => exact False.elim h
  | cons d ds =>
    obtain ⟨v, vr, rfl, r1, r2⟩ := r
    refine ⟨v, vr, rfl, h1 W Oc H0 O H σ env d v _ _ F r1 h fun H1 σ1 e1 F1 s1 w1 q1 => ?_⟩
    exact h2 W Oc H0 O H1 σ1 e1 ds vr _ _ F1 (Reps.stab s1 r2) q1 fun H2 σ2 e2 F2 s2 w2 q2 => hq H2 σ2 e2 F2 (s1.trans s2) (fun ws hw => (w2 ws fun i hi => hw i (List.mem_append_right _ hi)).trans (w1 ws fun i hi => hw i (List.mem_append_left _ hi))) q2
theorem gl1 {i : Nat} : ∀ ds env P, (DL.gCons (DL.gName i) DL.gNil) ds env P → ds.length = 1
  | [], _, _, h => h.elim
  | [_], _, _, _ => rfl
  | _ :: _ :: _, _, _, h => by cases h.1
theorem gl2 {i j : Nat} : ∀ ds env P, (DL.gCons (DL.gName i) (DL.gCons (DL.gName j) DL.gNil)) ds env P → ds.length = 2
  | [], _, _, h => h.elim
  | _ :: ds, _, _, h => congrArg (· + 1) (gl1 (i := j) ds _ _ h)
theorem gl3 {i j k : Nat} : ∀ ds env P, (DL.gCons (DL.gName i) (DL.gCons (DL.gName j) (DL.gCons (DL.gName k) DL.gNil))) ds env P → ds.length = 3
  | [], _, _, h => h.elim
  | _ :: ds, _, _, h => congrArg (· + 1) (gl2 (i := j) (j := k) ds _ _ h)
theorem gl4 {i j k l : Nat} : ∀ ds env P, (DL.gCons (DL.gName i) (DL.gCons (DL.gName j) (DL.gCons (DL.gName k) (DL.gCons (DL.gName l) DL.gNil)))) ds env P → ds.length = 4
  | [], _, _, h => h.elim
  | _ :: ds, _, _, h => congrArg (· + 1) (gl3 (i := j) (j := k) (k := l) ds _ _ h)
theorem gv_tup {es : List Expr} {k : Nat} {gs : List D → DEnv → (DEnv → Prop) → Prop} {n : Nat} {us : List Nat} (hc : X.calm = true) (h : GVs X Tb es gs us) (hl : ∀ ds env P, gs ds env P → ds.length = n)
    (hn : (assignEach es X.env).length = n := by rfl) (hst : (assignEach es X.env).findIdx? (·.1) = none := by rfl) : GV X Tb (.Tuple es k pos) (DL.gTup gs) us := by
  obtain ⟨g, p, h⟩ := h.ex
  refine ⟨_, pg_tup hc p hn hst, fun W Oc H0 O H σ env d v Q P F r hm hq => ?_⟩
  cases d with
  | tup ds =>
    obtain ⟨a, vs, rfl, qa, na, ra⟩ := r
    exact ⟨a, vs, rfl, sqRd qa, by rw [ra.length]; exact hl ds env P hm, h W Oc H0 O H σ env ds vs Q P F ra hm hq⟩
  | _ => exact False.elim hm
theorem sv_set {i : Nat} {x : Str} {pos' : Pos} (hN : X.N.Nodup) (hi : X.N[i]? = some x) (hx : Loc X.env.scope x) (h : EV X Tb e m) (hs : swapsWith e (some (.Name x pos')) pos.line X.env = pure false := by rfl)
    (hf : X.fn x = true ∨ X.env.scope.names.lookup x = some .local := by first | exact .inl rfl | exact .inr rfl | assumption) : SV X Tb (.Assign [.Name x pos'] e pos) (sSet i m) := by
  obtain ⟨t, p, h⟩ := h.ex
  refine ⟨_, ps_set hN hi hx p hs hf, fun W Oc H0 O H σ env D E F hm k => ?_⟩
  refine h W Oc H0 O H σ env _ _ F hm fun H1 v d e1 F1 s1 r1 q1 => ?_
  exact k.nx O H1 _ _ (F1.ilt r1) (Mv.of s1) q1
theorem sv_asg {tg : Expr} {g : MG} {us : List Nat} (he : EV X Tb e m) (hg : GV X Tb tg g us) (hs : swapsWithSole [tg] e pos.line X.env = pure false := by rfl) (hw : swappedStores [tg] e X.env = pure none := by rfl)
    (h1 : (assignEach [tg] X.env).map (·.2) = [assign tg X.env] := by rfl) : SV X Tb (.Assign [tg] e pos) (sAsg g m) := by
  obtain ⟨t, p, h⟩ := he.ex
  obtain ⟨g1, pg, hg⟩ := hg.ex
  refine ⟨_, ps_asg p pg hs hw h1, fun W Oc H0 O H σ env D E F hm k => ?_⟩
  refine h W Oc H0 O H σ env _ _ F hm fun H1 v d e1 F1 s1 r1 q1 => ?_
  exact hg W Oc H0 O H1 σ e1 d v _ _ F1 r1 q1 fun H2 σ2 e2 F2 s2 _ q2 => k.nx O H2 σ2 e2 F2 (Mv.of (s1.trans s2)) q2
theorem sv_aug {i : Nat} {x : Str} {pos' : Pos} {op : Operator} {o : O2} (hN : X.N.Nodup) (hi : X.N[i]? = some x) (hx : Loc X.env.scope x) (h : EV X Tb e m) (ho : OV X (inplaceOp op) o)
    (hf : X.fn x = true ∨ X.env.scope.names.lookup x = some .local := by first | exact .inl rfl | exact .inr rfl | assumption) : SV X Tb (.AugAssign (.Name x pos') op e pos) (sAug i o m) := by
  obtain ⟨t, p, h⟩ := h.ex
  obtain ⟨r, hr, ho⟩ := ho
  refine ⟨_, ps_aug hN hi hx p (ti := r) (fun pins s σ H x y v u Q I r1 r2 q => hr pins s σ H x y v u Q I r1 r2 q) hf, fun W Oc H0 O H σ env D E F hm k => ?_⟩
  unfold sAug at hm
  split at hm
  · rename_i x0 e0
    obtain ⟨v0, e1, r0⟩ := F.slot i _ e0
    refine ⟨v0, e1, h W Oc H0 O H σ env _ _ F hm fun H1 v d e1 F1 s1 r1 q1 => ?_⟩
    refine ho W.Pl O H1 x0 d v0 v _ _ (fun p hp => F1.nO hp) (Rep.stab s1 r0) r1 q1 fun H2 z d2 s2 r2 q2 => ?_
    exact k.nx O H2 _ _ ((F1.same s2).ilt r2) (Mv.of (s1.trans (Stab.of s2))) q2
  · exact False.elim hm
end
end DL

set_option Elab.async false
set_option linter.all false
set_option autoImplicit false
set_option maxRecDepth 100000
/-! DL4: what is walked, loops, comprehensions, lists that a def changes, the body of a def. -/
namespace DL
open PySem PySem.Spec PyProof.Rows L2
variable {X : Cx} {Tb : Addr → Prop}

/-! ### what is walked -/
/-- at each turn the iterator hands out the next of the items -/
def Drain (K : PySem.W.Frag) (Pl O1 : Addr → Prop) (H1 : Hp) (J : It) (items : List D) : Prop := ∀ O2 H2, Mv O1 H1 O2 H2 → (∀ p, H2 p = none → ¬ O2 p) → ∀ i,
  (∀ d, items[i]? = some d → J.go i H2 ∧ ∀ x H3, J.yld i H2 x H3 → Same H2 H3 ∧ Rep K Pl O2 H3 d x) ∧ (items.length ≤ i → J.stop i H2)
structure IV (X : Cx) (Tb : Addr → Prop) (tg e : Expr) (mi : MI) : Prop where
  ex : ∃ wi, PI X tg e wi ∧ ∀ (W : Wd X.K Tb) (Oc : Addr → Prop) (H0 : Hp) (O : Addr → Prop) (H : Hp) (σ : St) (env : DEnv) (R : It → Hp → Prop) (P : List D → DEnv → Prop), FR W Oc H0 O H σ env → mi env P →
    (∀ H' J items env', FR W Oc H0 O H' σ env' → Stab O H H' → Drain X.K W.Pl O H' J items → P items env' → R J H') → wi σ H R
section
variable {tg e l : Expr} {m : ME} {pos p : Pos}
def iSq (K : PySem.W.Frag) (tl : TE) : TI := fun σ H R => tl σ H fun x H1 => (∃ w, x = .str w ∧ R (Its w) H1) ∨ ∃ a, x = .ref a ∧ (((∃ xs, SqL K H1 a xs) ∧ R (Itl K a) H1) ∨ ((∃ xs, SqT K H1 a xs) ∧ R (Itt K a) H1))
theorem pi_sq {tl : TE} (hl : PE X l tl) : PI X tg l (iSq X.K tl) := by
  refine ⟨fun pins s σ H R I h => ?_⟩
  refine thn (hl.run pins s σ H _ I h) fun v s1 ⟨x, H1, I1, r1, q1⟩ => ?_
  rcases q1 with ⟨w, e, q⟩ | ⟨a, e, q1⟩
  · subst e
    obtain ⟨t, rfl⟩ := r1
    cases ha : w.cps.all (· < 128)
    · exact wpAny_pyIter_wide ha (pi_one (tk := s1.toks) I1 _ (turn_str _ w t "str_iterator" (.inr rfl)) ⟨_, Heap.get?_push_size _ rfl, rfl, rfl⟩ q)
    · exact wpAny_pyIter_ascii ha (pi_one (tk := s1.toks) I1 _ (turn_str _ w t "str_ascii_iterator" (.inl rfl)) ⟨_, Heap.get?_push_size _ rfl, rfl, rfl⟩ q)
  subst e
  cases r1
  rcases q1 with ⟨⟨xs, hq⟩, q⟩ | ⟨⟨xs, hq⟩, q⟩
  · obtain ⟨its, rv, p, hz⟩ := I1.list hq
    refine wpAny_pyIter_list p.isList ?_
    refine ⟨s1.heap.objs.size, [s1.heap.objs.size], _, _, H1, rfl, I1.kept (t' := s1.toks) fun b o e => Heap.get?_push_of_some _ e, turn_list a _, ⟨_, Heap.get?_push_size _ rfl, rfl, rfl⟩, fun b hb => ?_, q⟩
    have e : b = s1.heap.objs.size := by simpa using hb
    subst e
    exact I1.fpOk (Nat.le_refl _) (I1.hok.fresh (Nat.le_refl _))
  · obtain ⟨its, rv, p, hz⟩ := I1.tuple hq
    refine wpAny_pyIter_tuple (show s1.heap.IsTuple a its.toArray from p) ?_
    refine ⟨s1.heap.objs.size, [s1.heap.objs.size], _, _, H1, rfl, I1.kept (t' := s1.toks) fun b o e => Heap.get?_push_of_some _ e, turn_tuple a _, ⟨_, Heap.get?_push_size _ rfl, rfl, rfl⟩, fun b hb => ?_, q⟩
    have e : b = s1.heap.objs.size := by simpa using hb
    subst e
    exact I1.fpOk (Nat.le_refl _) (I1.hok.fresh (Nat.le_refl _))
theorem sqL_inj {K : PySem.W.Frag} {H : Hp} {a : Addr} {xs ys : List V} (h : H a = some (.lst xs)) (hk : K.lookup a = none ∨ SqL K H a ys → xs = ys) : True := trivial
theorem iv_seq (h : EV X Tb l m) : IV X Tb tg l (iSeq m) := by
  obtain ⟨t, pe, h⟩ := h.ex
  refine ⟨_, pi_sq pe, fun W Oc H0 O H σ env R P F hm hq => ?_⟩
  refine h W Oc H0 O H σ env _ _ F hm fun H1 v d e1 F1 s1 r1 q1 => ?_
  cases d with
  | tup xs =>
    obtain ⟨a, vs, rfl, qa, na, ra⟩ := r1
    refine .inr ⟨a, rfl, .inr ⟨⟨vs, sqRd qa⟩, hq H1 _ xs e1 F1 s1 (fun O2 H2 mv hO i => ⟨fun d hd => ?_, fun hle => ?_⟩) q1⟩⟩
    · obtain ⟨q2, n2⟩ := mv.rd qa na
      obtain ⟨v, e2, r2⟩ := ra.get hd
      refine ⟨⟨vs, v, sqRd q2, e2⟩, fun x H3 ⟨eH, hy⟩ => ?_⟩
      subst eH
      have e3 := hy vs (sqRd q2)
      rw [e2] at e3
      cases e3
      exact ⟨Same.refl _, Rep.mv mv r2⟩
    · exact ⟨vs, sqRd (mv.rd qa na).1, by rw [ra.length]; exact hle⟩
  | lst xs =>
    obtain ⟨a, vs, rfl, qa, na, ra⟩ := r1
    refine .inr ⟨a, rfl, .inl ⟨⟨vs, SqL.of qa⟩, hq H1 _ xs e1 F1 s1 (fun O2 H2 mv hO i => ⟨fun d hd => ?_, fun hle => ?_⟩) q1⟩⟩
    · obtain ⟨q2, n2⟩ := mv a _ qa na
      obtain ⟨v, e2, r2⟩ := ra.get hd
      refine ⟨⟨vs, v, SqL.of q2, e2⟩, fun x H3 ⟨eH, hy⟩ => ?_⟩
      subst eH
      have e3 := hy vs (SqL.of q2)
      rw [e2] at e3
      cases e3
      exact ⟨Same.refl _, Rep.mv mv r2⟩
    · exact ⟨vs, SqL.of (mv a _ qa na).1, by rw [ra.length]; exact hle⟩
  | str w =>
    refine .inl ⟨w, r1, hq H1 _ (signsD w) e1 F1 s1 (fun O2 H2 mv hO i => ⟨fun d hd => ?_, fun hle => ?_⟩) q1⟩
    · unfold signsD at hd
      rw [List.getElem?_map] at hd
      cases hc : w.cps.toList[i]? with
      | none => rw [hc] at hd; cases hd
      | some c =>
        rw [hc] at hd
        have hd : D.str ⟨#[c]⟩ = d := by injection hd
        subst hd
        have hc' : w.cps[i]? = some c := by rw [← hc, Array.getElem?_toList]
        refine ⟨by
          have := (Array.getElem?_eq_some_iff.mp hc').1
          exact this, fun x H3 ⟨eH, c', e2, ex⟩ => ?_⟩
        subst eH
        rw [hc'] at e2
        cases e2
        exact ⟨Same.refl _, ex⟩
    · show w.cps.size ≤ i
      unfold signsD at hle
      simpa using hle
  | _ => exact False.elim q1
theorem ints_get : ∀ (n : Nat) (lo : Int) (i : Nat) (d : D), (intsD lo n)[i]? = some d → i < n ∧ d = .int (lo + i)
  | 0, lo, i, d, h => by simp [intsD] at h
  | n + 1, lo, 0, d, h => by
    simp [intsD] at h; subst h
    exact ⟨Nat.succ_pos _, by simp⟩
  | n + 1, lo, i + 1, d, h => by
    obtain ⟨h1, h2⟩ := ints_get n (lo + 1) i d (by simpa [intsD] using h)
    refine ⟨Nat.succ_lt_succ h1, ?_⟩
    rw [h2]; congr 1; omega
theorem ints_len : ∀ (n : Nat) (lo : Int), (intsD lo n).length = n
  | 0, _ => rfl
  | n + 1, lo => by simp [intsD, ints_len n]
theorem drain_range {K : PySem.W.Frag} {Pl O1 : Addr → Prop} {H1 : Hp} (lo : Int) (n : Nat) : Drain K Pl O1 H1 (Itr lo n) (intsD lo n) := fun O2 H2 mv hO i => by
  refine ⟨fun d hd => ?_, fun hle => ?_⟩
  · obtain ⟨h1, rfl⟩ := ints_get n lo i d hd
    refine ⟨h1, fun x H3 ⟨eH, ex⟩ => ?_⟩
    subst eH ex
    exact ⟨Same.refl _, rfl⟩
  · show n ≤ i
    rw [ints_len] at hle; exact hle
theorem iv_range1 {a : Expr} (hg : Gl X "range") (hm : X.mg "range" = none) (h : EV X Tb a m) (hs : starEach [a] X.env = [(false, eval a X.env)] := by rfl) : IV X Tb tg (.Call (.Name "range" p) [a] [] pos) (iRange1 m) := by
  obtain ⟨t, pe, h⟩ := h.ex
  refine ⟨_, pi_range1 hg hm (pa_cons pe pa_nil hs) hs, fun W Oc H0 O H σ env R P F hm hq => ?_⟩
  refine h W Oc H0 O H σ env _ _ F hm fun H1 v d e1 F1 s1 r1 q1 => ?_
  cases d with
  | int n =>
    obtain ⟨h1, h2, q1⟩ := q1
    exact ⟨n, by rw [show v = _ from r1], h2, h1, hq H1 _ _ e1 F1 s1 (drain_range 0 n.toNat) q1⟩
  | _ => exact False.elim q1
theorem iv_range2 {a b : Expr} {m2 : ME} (hg : Gl X "range") (hm : X.mg "range" = none) (h : EV X Tb a m) (h2 : EV X Tb b m2) (hs : starEach [a, b] X.env = [(false, eval a X.env), (false, eval b X.env)] := by rfl) (hs2 : starEach [b] X.env = [(false, eval b X.env)] := by rfl) :
    IV X Tb tg (.Call (.Name "range" p) [a, b] [] pos) (iRange2 m m2) := by
  obtain ⟨t, pe, h⟩ := h.ex
  obtain ⟨t2, pe2, h2⟩ := h2.ex
  refine ⟨_, pi_range2 hg hm (pa_cons pe (pa_cons pe2 pa_nil hs2) (hs.trans (by rw [hs2]))) hs hs2, fun W Oc H0 O H σ env R P F hm hq => ?_⟩
  refine h W Oc H0 O H σ env _ _ F hm fun H1 v d e1 F1 s1 r1 q1 => ?_
  refine h2 W Oc H0 O H1 σ e1 _ _ F1 q1 fun H2 v2 d2 e2 F2 s2 r2 q2 => ?_
  cases d <;> cases d2 <;> first | exact False.elim q2 | skip
  rename_i i j
  exact ⟨i, j, by rw [show v = _ from r1, show v2 = _ from r2], q2.1, hq H2 _ _ e2 F2 (s1.trans s2) (drain_range i _) q2.2⟩
end

/-! ### for, while -/
section
variable {tg iter c : Expr} {body : List Stmt} {mi : MI} {g : MG} {us : List Nat} {mb : MS} {mc : MT} {pos : Pos}
theorem sv_for (hp : PassesOwn (model X.prog X.w) X.A X.env X.xe) (hc : X.calm = true) (hi : IV X Tb tg iter mi) (hg : GV X Tb tg g us) (hb : BV X Tb body mb)
    (hs : ∀ x, foldedSetIterable iter X.env x = pure x := by intro _; rfl) : SV X Tb (.For tg iter body [] pos) (sFor mi g mb) := by
  obtain ⟨wi, pi, hi⟩ := hi.ex
  obtain ⟨tg', pg, hg⟩ := hg.ex
  obtain ⟨tb, pb, hb⟩ := hb.ex
  refine ⟨_, ps_for hp hc pi pg pb hs, fun W Oc H0 O H σ env D E F hm k => ?_⟩
  refine hi W Oc H0 O H σ env _ _ F hm fun H1 J items e1 F1 s1 dr q1 => ?_
  refine ⟨fun i m σ2 H2 => ∃ O2 e2, m = items.length - i ∧ i ≤ items.length ∧ FR W Oc H0 O2 H2 σ2 e2 ∧ Mv O H1 O2 H2 ∧ loopFor g mb E (items.drop i) e2, ⟨_, O, e1, rfl, Nat.zero_le _, F1, Mv.refl, by simpa using q1⟩, ?_⟩
  rintro i m σ2 H2 ⟨O2, e2, rfl, hle, F2, mv, q2⟩
  obtain ⟨dgo, dst⟩ := dr O2 H2 mv (fun p hp => F2.nO hp) i
  by_cases hlt : i < items.length
  · rw [List.drop_eq_getElem_cons hlt] at q2
    obtain ⟨go, yl⟩ := dgo items[i] (List.getElem?_eq_getElem hlt)
    refine .inr ⟨go, fun σ' H' => ∃ O' e', FR W Oc H0 O' H' σ' e' ∧ Mv O H1 O' H' ∧ loopFor g mb E (items.drop (i + 1)) e', fun σ' H' ⟨O', e', F', mv', q'⟩ => ⟨items.length - (i + 1), by omega, O', e', rfl, hlt, F', mv', q'⟩, fun x H3 hy => ?_⟩
    obtain ⟨sm, rx⟩ := yl x H3 hy
    have F3 := F2.same sm
    refine hg W Oc H0 O2 H3 σ2 e2 items[i] x _ _ F3 rx q2 fun H4 σ4 e4 F4 s4 _ q4 => ?_
    have mv4 : Mv O H1 O2 H4 := mv.trans ((Mv.of (Stab.of sm)).trans (Mv.of s4))
    have mv0 : Mv O H O H1 := Mv.of s1
    refine hb W Oc H0 O2 H4 σ4 e4 _ _ F4 q4 ⟨fun O' H' σ' e' F' mv' q' => ⟨O', e', F', mv4.trans mv', q'⟩, k.rt, fun O' H' σ' e' F' mv' q' => k.nx O' H' σ' e' F' (mv0.trans (mv4.trans mv')) q', fun O' H' σ' e' F' mv' q' => ⟨O', e', F', mv4.trans mv', q'⟩, fun _ _ _ _ _ _ _ _ _ q => False.elim q⟩
  · have e : i = items.length := by omega
    subst e
    rw [List.drop_length] at q2
    exact .inl ⟨dst (Nat.le_refl _), k.nx O2 H2 σ2 e2 F2 ((Mv.of s1).trans mv) q2⟩
theorem sv_while (hp : PassesOwn (model X.prog X.w) X.A X.env X.xe) (hc : TV X Tb c mc) (hb : BV X Tb body mb) : SV X Tb (.While c body [] pos) (sWhile mc mb) := by
  obtain ⟨tc, pc, hc⟩ := hc.ex
  obtain ⟨tb, pb, hb⟩ := hb.ex
  refine ⟨_, ps_while hp pc pb, fun W Oc H0 O H σ env D E F hm k => ?_⟩
  obtain ⟨n, hm⟩ := hm
  refine ⟨fun m σ2 H2 => ∃ O2 e2, FR W Oc H0 O2 H2 σ2 e2 ∧ Mv O H O2 H2 ∧ whileN mc mb E m e2, ⟨n, O, env, F, Mv.refl, hm⟩, ?_⟩
  rintro m σ2 H2 ⟨O2, e2, F2, mv, q2⟩
  cases m with
  | zero => exact False.elim q2
  | succ m =>
    refine hc W Oc H0 O2 H2 σ2 e2 _ _ F2 q2 fun H3 b e3 F3 s3 q3 => ?_
    have mv3 : Mv O H O2 H3 := mv.trans (Mv.of s3)
    cases b with
    | true =>
      refine iteT ⟨fun σ' H' => ∃ O' e', FR W Oc H0 O' H' σ' e' ∧ Mv O H O' H' ∧ whileN mc mb E m e', fun σ' H' q => ⟨m, Nat.lt_succ_self _, q⟩, ?_⟩
      refine hb W Oc H0 O2 H3 σ2 e3 _ _ F3 (show _ from q3) ⟨fun O' H' σ' e' F' mv' q' => ⟨O', e', F', mv3.trans mv', q'⟩, k.rt, fun O' H' σ' e' F' mv' q' => k.nx O' H' σ' e' F' (mv3.trans mv') q', fun O' H' σ' e' F' mv' q' => ⟨O', e', F', mv3.trans mv', q'⟩, fun _ _ _ _ _ _ _ _ _ q => False.elim q⟩
    | false => exact iteF (k.nx O2 H3 σ2 e3 F3 mv3 q3)
end

/-! ### uniform readings -/
def TEm (K : PySem.W.Frag) (Tb : Addr → Prop) (m : ME) : TE := fun σ H Q => ∃ (W : Wd K Tb) (Oc : Addr → Prop) (H0 : Hp) (O : Addr → Prop) (env : DEnv) (P : D → DEnv → Prop), FR W Oc H0 O H σ env ∧ m env P ∧
  ∀ H' v d env', FR W Oc H0 O H' σ env' → Stab O H H' → Rp W O H' d v → P d env' → Q v H'
theorem PE.weak {e : Expr} {t t' : TE} (h : PE X e t) (k : ∀ σ H Q, t' σ H Q → t σ H Q) : PE X e t' := ⟨fun pins s σ H Q I hw => h.run pins s σ H Q I (k σ H Q hw)⟩
theorem EV.pe {e : Expr} {m : ME} (h : EV X Tb e m) : PE X e (TEm X.K Tb m) := by
  obtain ⟨t, p, h⟩ := h.ex
  exact PE.weak p fun σ H Q ⟨W, Oc, H0, O, env, P, F, hm, hq⟩ => h W Oc H0 O H σ env Q P F hm hq
def TTm (K : PySem.W.Frag) (Tb : Addr → Prop) (m : MT) : TT := fun σ H Q => ∃ (W : Wd K Tb) (Oc : Addr → Prop) (H0 : Hp) (O : Addr → Prop) (env : DEnv) (P : Bool → DEnv → Prop), FR W Oc H0 O H σ env ∧ m env P ∧
  ∀ H' v env', FR W Oc H0 O H' σ env' → Stab O H H' → P v env' → Q v H'
/-- the tests of a comprehension's clause -/
structure FTV (X : Cx) (Tb : Addr → Prop) (ifs : List Expr) (m : MT) : Prop where
  ex : ∃ t, PTs X ifs t ∧ ∀ (W : Wd X.K Tb) (Oc : Addr → Prop) (H0 : Hp) (O : Addr → Prop) (H : Hp) (σ : St) (env : DEnv) (Q : Bool → Hp → Prop) (P : Bool → DEnv → Prop), FR W Oc H0 O H σ env → m env P →
    (∀ H' k env', FR W Oc H0 O H' σ env' → Stab O H H' → P k env' → Q k H') → t σ H Q
theorem ftv_nil : FTV X Tb [] tNone := ⟨_, pts_nil, fun W Oc H0 O H σ env Q P F hm hq => hq H true env F Stab.refl hm⟩
theorem ftv_one {c : Expr} {m : MT} (h : TV X Tb c m) : FTV X Tb [c] m := by
  obtain ⟨t, p, h⟩ := h.ex
  exact ⟨_, pts_one p, h⟩
theorem FTV.pt {ifs : List Expr} {m : MT} (h : FTV X Tb ifs m) : PTs X ifs (TTm X.K Tb m) := by
  obtain ⟨t, p, h⟩ := h.ex
  exact ⟨fun pins s σ H Q I ⟨W, Oc, H0, O, env, P, F, hm, hq⟩ => p.run pins s σ H Q I (h W Oc H0 O H σ env Q P F hm hq)⟩
def TGm (K : PySem.W.Frag) (Tb : Addr → Prop) (m : MG) (us : List Nat) : TG := fun v σ H Q => ∃ (W : Wd K Tb) (Oc : Addr → Prop) (H0 : Hp) (O : Addr → Prop) (env : DEnv) (d : D) (P : DEnv → Prop), FR W Oc H0 O H σ env ∧ Rp W O H d v ∧ m d env P ∧
  ∀ H' σ' env', FR W Oc H0 O H' σ' env' → Stab O H H' → (∀ ws : List Nat, (∀ i ∈ us, i ∈ ws) → L2.wipe σ' ws = L2.wipe σ ws) → P env' → Q σ' H'
theorem GV.pg {tg : Expr} {m : MG} {us : List Nat} (h : GV X Tb tg m us) : PG X tg (TGm X.K Tb m us) := by
  obtain ⟨g, p, h⟩ := h.ex
  exact ⟨fun pins s σ H v u Q I r ⟨W, Oc, H0, O, env, d, P, F, rd, hm, hq⟩ => p.run pins s σ H v u Q I r (h W Oc H0 O H σ env d v Q P F rd hm hq)⟩

/-! ### within a comprehension -/
section
variable {K : PySem.W.Frag} {W : Wd K Tb} {Oc O : Addr → Prop} {H0 H : Hp} {σ : St} {env : DEnv}
theorem wipe_len (env : DEnv) : ∀ vs : List Nat, (DL.wipe env vs).length = env.length
  | [] => rfl
  | v :: vs => by unfold DL.wipe; rw [List.length_set, wipe_len env vs]
theorem dwipe_get {env : DEnv} {i : Nat} {s : Sl} : ∀ {vs : List Nat}, (DL.wipe env vs)[i]? = some (some s) → env[i]? = some (some s) ∧ i ∉ vs
  | [], h => ⟨h, by simp⟩
  | v :: vs, h => by
    unfold DL.wipe at h
    by_cases hi : v = i
    · subst hi
      by_cases hv : v < (DL.wipe env vs).length
      · rw [List.getElem?_set_self hv] at h; cases h
      · rw [List.getElem?_eq_none (by simpa using hv)] at h; cases h
    · rw [List.getElem?_set_ne hi] at h
      obtain ⟨h1, h2⟩ := dwipe_get h
      exact ⟨h1, by simp only [List.mem_cons, not_or]; exact ⟨fun e => hi e.symm, h2⟩⟩
theorem hide_get {env : DEnv} {i : Nat} {s : Sl} (h : (hide env)[i]? = some (some s)) : ∃ d, s = .val d ∧ env[i]? = some (some (.val d)) := by
  unfold hide at h
  rw [List.getElem?_map] at h
  cases e : env[i]? with
  | none => rw [e] at h; cases h
  | some o =>
    rw [e] at h
    cases o with
    | none => cases h
    | some s' =>
      cases s' with
      | own ds => cases h
      | dic kvs => cases h
      | gdi kvs => cases h
      | val d =>
        have : some (Sl.val d) = some s := by simpa using h
        exact ⟨d, (Option.some.inj this).symm, rfl⟩
/-- the frame within: all that stands is kept; O' besides -/
theorem FR.inner (F : FR W Oc H0 O H σ env) {O' : Addr → Prop} (hO : ∀ a, O a → O' a) (hd : ∀ a, O' a → ∃ o, H a = some o) (rep : ∀ (i : Nat) (d : D) (v : V), env[i]? = some (some (.val d)) → σ[i]? = some (some v) → Rp W O H d v → Rp W O' H d v) (vs : List Nat) :
    FR W O' H O' H (L2.wipe σ vs) (hide (DL.wipe env vs)) where
  g := F.g
  kept := fun _ _ h _ => h
  zc := fun a z => hO a (F.zo a z)
  dc := hd
  oc := fun _ h => h
  od := fun _ h => .inl h
  len := by unfold hide; rw [List.length_map, wipe_len, L2.wipe_length]; exact F.len
  slot := fun i s h => by
    obtain ⟨d, rfl, h1⟩ := hide_get h
    obtain ⟨h2, hv⟩ := dwipe_get h1
    obtain ⟨v, e1, r⟩ := F.slot i _ h2
    exact ⟨v, by rw [wipe_get, if_neg hv]; exact e1, rep i d v h2 e1 r⟩
  dist := fun i j s t a _ h _ m => by
    obtain ⟨d, e, _⟩ := hide_get h
    subst e; cases m
end

/-! ### list comprehensions -/
/-- an expression whose value is a new list -/
structure FV (X : Cx) (Tb : Addr → Prop) (e : Expr) (m : MF) : Prop where
  ex : ∃ t, PE X e t ∧ ∀ (W : Wd X.K Tb) (Oc : Addr → Prop) (H0 : Hp) (O : Addr → Prop) (H : Hp) (σ : St) (env : DEnv) (Q : VK) (P : List D → DEnv → Prop), FR W Oc H0 O H σ env → m env P →
    (∀ H' p vs ds env', FR W Oc H0 O H' σ env' → FR W Oc H0 (fun a => O a ∨ a = p) H' σ env' → Stab O H H' → H p = none → H0 p = none → ¬ O p → H' p = some (.lst vs) → Rps W (fun a => O a ∨ a = p) H' ds vs → P ds env' → Q (.ref p) H') → t σ H Q
theorem FR.new0 {K : PySem.W.Frag} {W : Wd K Tb} {Oc O : Addr → Prop} {H0 H : Hp} {σ : St} {env : DEnv} (F : FR W Oc H0 O H σ env) {p : Addr} (h : H p = none) : H0 p = none := by
  cases e : H0 p with
  | none => rfl
  | some o =>
    by_cases z : W.Z p
    · obtain ⟨u, q⟩ := W.dom H p F.g z
      rw [h] at q; cases q
    · have := F.kept p o e z
      rw [h] at this; cases this
/-- one more cell is avoided: it is new -/
theorem FR.addO {K : PySem.W.Frag} {W : Wd K Tb} {Oc O : Addr → Prop} {H0 H H' : Hp} {σ : St} {env : DEnv} (F : FR W Oc H0 O H σ env) {p : Addr} (h : H p = none) (kp : Keep W H H') (hp : ∃ o, H' p = some o ∧ MutO o) : FR W Oc H0 (fun a => O a ∨ a = p) H' σ env := by
  have F' := F.keep kp
  have mv : Mv O H (fun a => O a ∨ a = p) H' := fun a o e n => ⟨kp.stab F.zo a o e n, fun z => z.elim n fun z => by rw [z, h] at e; cases e⟩
  refine ⟨F'.g, F'.kept, F.zc, F.dc, fun a z => .inl (F.oc a z), fun a z => ?_, F.len, fun i s e => ?_, F.dist⟩
  · rcases z with z | z
    · exact F'.od a z
    · rw [z]; exact .inr ⟨F.new0 h, hp⟩
  · have q := F.slot i s e
    cases s with
    | val d => obtain ⟨v, e1, r⟩ := q; exact ⟨v, e1, Rep.mv mv r⟩
    | own ds =>
      obtain ⟨a, vs, e1, h1, h2, h3, r⟩ := q
      exact ⟨a, vs, e1, .inl h1, h2, kp.2 a _ h3 (F.ownZ h2), Reps.mv mv r⟩
    | dic kvs =>
      obtain ⟨a, e1, h1, h2, r⟩ := q
      exact ⟨a, e1, .inl h1, h2, r.mvK (fun o q => kp.2 a _ q (F.ownZ h2)) mv⟩
    | gdi kvs =>
      obtain ⟨a, e1, h1, h2, r⟩ := q
      exact ⟨a, e1, .inl h1, h2, r.mvK (fun o q => kp.2 a _ q (F.ownZ h2)) mv⟩
/-- what is free now was free before -/
theorem FR.back {K : PySem.W.Frag} {W : Wd K Tb} {Oc O : Addr → Prop} {H0 H H1 : Hp} {σ σ1 : St} {env e1 : DEnv} (F : FR W Oc H0 O H σ env) (F1 : FR W Oc H0 O H1 σ1 e1) (s : Stab O H H1) {p : Addr} (h : H1 p = none) : H p = none := by
  cases e : H p with
  | none => rfl
  | some o =>
    have := s p o e (F1.nO h)
    rw [h] at this; cases this
theorem ev_fr {e : Expr} {m : MF} (h : FV X Tb e m) : EV X Tb e (eFr m) := by
  obtain ⟨t, p, h⟩ := h.ex
  refine ⟨_, p, fun W Oc H0 O H σ env Q P F hm hq => ?_⟩
  exact h W Oc H0 O H σ env _ _ F hm fun H1 p vs ds e1 F1 F1' s1 pH p0 nO hp r q1 => hq H1 _ (.lst ds) e1 F1 s1 ⟨p, vs, rfl, hp, nO, Reps.weak (fun a h => .inl h) r⟩ q1
theorem fv_lst {es : List Expr} {mr : MA} {pos : Pos} (h : AV X Tb es mr) : FV X Tb (.List es pos) (fLst mr) := by
  obtain ⟨t, pa, h1⟩ := h.ex
  refine ⟨_, pe_lst pa, fun W Oc H0 O H σ env Q P F hm hq => ?_⟩
  refine h1 W Oc H0 O H σ env _ _ F hm fun H1 xs ds e1 F1 s1 r1 ⟨z, q1⟩ => ⟨by rw [r1.length, ← ln_eq]; exact z, fun p hp => ?_⟩
  have mv : Mv O H1 (fun a => O a ∨ a = p) (upd H1 p (.lst xs)) := fun a o e n => ⟨same_upd hp a o e, fun z => z.elim n fun z => by rw [z, hp] at e; cases e⟩
  exact hq _ p xs ds e1 (F1.same (same_upd hp)) (F1.addO hp (Keep.same F1.g (same_upd hp)) ⟨_, upd_same, .inl ⟨_, rfl⟩⟩) (s1.trans (Stab.of (same_upd hp))) (F.back F1 s1 hp) (F1.new0 hp) (F1.nO hp) upd_same (Reps.mv mv r1) q1
section
variable {elt tg iter : Expr} {ifs : List Expr} {scope : Scope} {own : List (Str × Nat)} {pos : Pos} {mi : MI} {g : MG} {mt : MT} {me : ME} {us : List Nat}
theorem lc_read {wi : TI} (W : Wd X.K Tb) (Oc : Addr → Prop) (H0 : Hp) (O : Addr → Prop) (H : Hp) (σ : St) (env : DEnv) (Q : VK) (P : List D → DEnv → Prop) (vs : List Nat) (hus : ∀ i ∈ us, i ∈ vs)
    (hi : ∀ (W : Wd X.K Tb) (Oc : Addr → Prop) (H0 : Hp) (O : Addr → Prop) (H : Hp) (σ : St) (env : DEnv) (R : It → Hp → Prop) (P : List D → DEnv → Prop), FR W Oc H0 O H σ env → mi env P →
      (∀ H' J items env', FR W Oc H0 O H' σ env' → Stab O H H' → Drain X.K W.Pl O H' J items → P items env' → R J H') → wi σ H R)
    (F : FR W Oc H0 O H σ env) (hm : fLc mi g mt me vs env P)
    (hq : ∀ H' p vs ds env', FR W Oc H0 O H' σ env' → FR W Oc H0 (fun a => O a ∨ a = p) H' σ env' → Stab O H H' → H p = none → H0 p = none → ¬ O p → H' p = some (.lst vs) → Rps W (fun a => O a ∨ a = p) H' ds vs → P ds env' → Q (.ref p) H') :
    tLc wi (TGm X.K Tb g us) (TTm X.K Tb mt) (TEm X.K Tb me) vs σ H Q := by
  refine hi W Oc H0 O H σ env _ _ F hm fun H1 J items e1 F1 s1 dr ⟨hlen, q1⟩ => ?_
  intro D hD
  have nOD : ¬ O D := F1.nO hD
  let O' : Addr → Prop := fun a => O a ∨ a = D
  refine ⟨fun i m H2 => ∃ acc accD, m = items.length - i ∧ i ≤ items.length ∧ Keep W H1 H2 ∧ H2 D = some (.lst acc) ∧ Rps W O' H2 accD acc ∧ accD.length ≤ i ∧ lcLoop g mt me (hide (DL.wipe e1 vs)) (fun acc => P acc e1) (items.drop i) accD,
    ⟨_, [], [], rfl, Nat.zero_le _, Keep.same F1.g (same_upd hD), upd_same, rfl, Nat.le_refl _, by simpa using q1⟩, ?_⟩
  rintro i m H2 ⟨acc, accD, rfl, hle, kp, hDa, racc, hal, q2⟩
  have mv : Mv O H1 O' H2 := fun a o e n => ⟨kp.stab F1.zo a o e n, fun z => z.elim n fun z => by rw [z, hD] at e; cases e⟩
  have F2 := F1.keep kp
  have hO' : ∀ p, H2 p = none → ¬ O' p := fun p hp z => by
    rcases z with z | z
    · exact F2.nO hp z
    · rw [z, hDa] at hp; cases hp
  obtain ⟨dgo, dst⟩ := dr O' H2 mv hO' i
  by_cases hlt : i < items.length
  · rw [List.drop_eq_getElem_cons hlt] at q2
    obtain ⟨go, yl⟩ := dgo items[i] (List.getElem?_eq_getElem hlt)
    refine .inr ⟨go, fun H' => ∃ acc accD, Keep W H1 H' ∧ H' D = some (.lst acc) ∧ Rps W O' H' accD acc ∧ accD.length ≤ i + 1 ∧ lcLoop g mt me (hide (DL.wipe e1 vs)) (fun acc => P acc e1) (items.drop (i + 1)) accD,
      fun H' ⟨acc', accD', h1, h2, h3, h4, h5⟩ => ⟨items.length - (i + 1), by omega, acc', accD', rfl, hlt, h1, h2, h3, h4, h5⟩, fun x H3 hy => ?_⟩
    obtain ⟨sm, rx⟩ := yl x H3 hy
    have kp3 : Keep W H1 H3 := kp.trans (Keep.same kp.1 sm)
    have F3 := F1.keep kp3
    have hD3 : H3 D = some (.lst acc) := sm D _ hDa
    have mv3 : Mv O H1 O' H3 := fun a o e n => ⟨kp3.stab F1.zo a o e n, fun z => z.elim n fun z => by rw [z, hD] at e; cases e⟩
    have Fi : FR W O' H3 O' H3 (L2.wipe σ vs) (hide (DL.wipe e1 vs)) := F3.inner (O' := O') (fun a h => .inl h) (fun a h => by
      rcases h with h | h
      · exact F3.dom a h
      · rw [h]; exact ⟨_, hD3⟩) (fun j d v h1 h2 r => by
        obtain ⟨v', e', r'⟩ := F1.slot j _ h1
        rw [h2] at e'
        cases e'
        exact Rep.mv mv3 r') vs
    refine ⟨W, O', H3, O', _, items[i], _, Fi, rx, q2, fun H4 σ4 e4 F4 s4 w4 q4 => ⟨?_, ?_⟩⟩
    · have z : ∀ (σ : St), L2.wipe (L2.wipe σ vs) vs = L2.wipe σ vs := fun σ => by
        refine List.ext_getElem? fun j => ?_
        rw [wipe_get, wipe_get]
        by_cases hj : j ∈ vs
        · rw [if_pos hj, if_pos hj, ]; cases σ[j]? <;> rfl
        · rw [if_neg hj, if_neg hj]
      exact (w4 vs hus).trans (z σ)
    · refine ⟨W, O', H3, O', e4, _, F4, q4, fun H5 b e5 F5 s5 q5 => ?_⟩
      cases b with
      | true =>
        refine iteT ⟨W, O', H3, O', e5, _, F5, q5, fun H6 y dy e6 F6 s6 ry q6 => ?_⟩
        have kp6 : Keep W H1 H6 := kp3.trans F6.rt
        have hZD : ¬ W.Z D := fun z => by
          obtain ⟨u, q⟩ := W.dom H1 D F1.g z
          rw [hD] at q; cases q
        have hD6 : H6 D = some (.lst acc) := F6.kept D _ hD3 hZD
        have st36 : Stab O' H3 H6 := s4.trans (s5.trans s6)
        have racc6 : Rps W O' H6 accD acc := Reps.stab ((Stab.of sm).trans st36) racc
        have keepD : ∀ a o, H6 a = some o → a ≠ D → upd H6 D (.lst (acc ++ [y])) a = some o := fun a o e n => by rw [upd_ne n]; exact e
        have st6 : Stab O' H6 (upd H6 D (.lst (acc ++ [y]))) := fun a o e n => keepD a o e fun z => n (.inr z)
        have gl : W.G (upd H6 D (.lst (acc ++ [y]))) := W.loc H6 _ (fun a z => upd_ne fun q => hZD (q ▸ z)) F6.g
        refine ⟨acc, hD6, ?_, acc ++ [y], accD ++ [dy], ⟨gl, fun a o e n => ?_⟩, upd_same, Reps.stab st6 (racc6.app (Reps.one ry)), ?_, q6⟩
        · have := racc.length
          rw [this, ← ln_eq]
          omega
        · exact keepD a o (kp6.2 a o e n) fun z => by rw [z, hD] at e; cases e
        · rw [List.length_append, List.length_singleton]; omega
      | false =>
        have kp5 : Keep W H1 H5 := kp3.trans F5.rt
        have hZD : ¬ W.Z D := fun z => by
          obtain ⟨u, q⟩ := W.dom H1 D F1.g z
          rw [hD] at q; cases q
        have st35 : Stab O' H3 H5 := s4.trans s5
        exact iteF ⟨acc, accD, kp5, F5.kept D _ hD3 hZD, Reps.stab ((Stab.of sm).trans st35) racc, by omega, q5⟩
  · have e : i = items.length := by omega
    subst e
    rw [List.drop_length] at q2
    refine .inl ⟨dst (Nat.le_refl _), ?_⟩
    exact hq H2 D acc accD e1 F2 (F1.addO hD kp ⟨_, hDa, .inl ⟨_, rfl⟩⟩) (s1.trans (kp.stab F1.zo)) (F.back F1 s1 hD) (F1.new0 hD) nOD hDa racc q2
theorem fv_lc {vs : List Nat} (hc : X.calm = true) (hN : X.N.Nodup) (hi : IV X Tb tg iter mi) (ok : BlkOk X.N X.env.scope scope own) (hus : ∀ i ∈ us, i ∈ own.map (·.2))
    (hg : ∀ (s : Shared) (H : Hp) (C : Addr) (cl : List (Str × Addr)) (fp : List Addr), GV (X.blk s H scope (compEnvC scope cl C X.env) fp) Tb tg g us)
    (ht : ∀ (s : Shared) (H : Hp) (C : Addr) (cl : List (Str × Addr)) (fp : List Addr), FTV (X.blk s H scope (compEnvC scope cl C X.env) fp) Tb ifs mt)
    (he : ∀ (s : Shared) (H : Hp) (C : Addr) (cl : List (Str × Addr)) (fp : List Addr), EV (X.blk s H scope (compEnvC scope cl C X.env) fp) Tb elt me) (hs : ∀ x, foldedSetIterable iter X.env x = pure x := by intro _; rfl) (hvs : own.map (·.2) = vs := by rfl) :
    FV X Tb (.ListComp elt [⟨tg, iter, ifs, 0⟩] scope pos) (fLc mi g mt me vs) := by
  subst hvs
  obtain ⟨wi, pi, hi⟩ := hi.ex
  refine ⟨_, pe_lc hc hN pi ok (g := TGm X.K Tb g us) (tt := TTm X.K Tb mt) (te := TEm X.K Tb me) (fun s H C cl fp => (hg s H C cl fp).pg) (fun s H C cl fp => (ht s H C cl fp).pt) (fun s H C cl fp => (he s H C cl fp).pe) hs, fun W Oc H0 O H σ env Q P F hm hq => ?_⟩
  exact lc_read W Oc H0 O H σ env Q P _ hus hi F hm hq
/-- y = [..], y a local -/
theorem sv_setLc {vs : List Nat} {i : Nat} {y : Str} {py spos : Pos} (hc : X.calm = true) (hN : X.N.Nodup) (hy : X.N[i]? = some y) (hyl : X.env.scope.names.lookup y = some .local)
    (hsw : swapsWith (.ListComp elt [⟨tg, iter, ifs, 0⟩] scope pos) (some (.Name y py)) spos.line X.env = pure true) (hi : IV X Tb tg iter mi) (ok : BlkOk X.N X.env.scope scope own) (hus : ∀ i ∈ us, i ∈ own.map (·.2))
    (hg : ∀ (s : Shared) (H : Hp) (C : Addr) (cl : List (Str × Addr)) (fp : List Addr), GV (X.blk s H scope (compEnvC scope cl C X.env) fp) Tb tg g us)
    (ht : ∀ (s : Shared) (H : Hp) (C : Addr) (cl : List (Str × Addr)) (fp : List Addr), FTV (X.blk s H scope (compEnvC scope cl C X.env) fp) Tb ifs mt)
    (he : ∀ (s : Shared) (H : Hp) (C : Addr) (cl : List (Str × Addr)) (fp : List Addr), EV (X.blk s H scope (compEnvC scope cl C X.env) fp) Tb elt me) (hs : ∀ x, foldedSetIterable iter X.env x = pure x := by intro _; rfl) (hvs : own.map (·.2) = vs := by rfl) :
    SV X Tb (.Assign [.Name y py] (.ListComp elt [⟨tg, iter, ifs, 0⟩] scope pos) spos) (sSet i (eFr (fLc mi g mt me vs))) := by
  subst hvs
  obtain ⟨wi, pi, hi⟩ := hi.ex
  refine ⟨_, ps_setLc hc hN hy hyl hsw pi ok (g := TGm X.K Tb g us) (tt := TTm X.K Tb mt) (te := TEm X.K Tb me) (fun s H C cl fp => (hg s H C cl fp).pg) (fun s H C cl fp => (ht s H C cl fp).pt) (fun s H C cl fp => (he s H C cl fp).pe) hs, fun W Oc H0 O H σ env D E F hm k => ?_⟩
  refine lc_read W Oc H0 O H σ env _ _ _ hus hi F hm fun H1 p vs ds e1 F1 F1' s1 pH p0 nO hp r q1 => ?_
  exact k.nx O H1 _ _ (F1.ilt (d := .lst ds) ⟨p, vs, rfl, hp, nO, Reps.weak (fun a h => .inl h) r⟩) (Mv.of s1) q1
end

/-! ### lists that a def changes -/
section
variable {K : PySem.W.Frag} {W : Wd K Tb} {Oc O : Addr → Prop} {H0 H : Hp} {σ : St} {env : DEnv}
theorem FR.own (F : FR W Oc H0 O H σ env) {i : Nat} {ds : List D} (e : env[i]? = some (some (.own ds))) : ∃ a vs, σ[i]? = some (some (.ref a)) ∧ O a ∧ H0 a = none ∧ H a = some (.lst vs) ∧ Rps W O H ds vs := F.slot i _ e
theorem Slt.addr {i : Nat} {s : Sl} (m : s.mine = true) (q : Slt W O H0 H σ i s) : ∃ a, σ[i]? = some (some (.ref a)) ∧ O a ∧ H0 a = none := by
  cases s with
  | val d => cases m
  | own ds => obtain ⟨a, vs, e1, h1, h2, _⟩ := q; exact ⟨a, e1, h1, h2⟩
  | dic kvs => obtain ⟨a, e1, h1, h2, _⟩ := q; exact ⟨a, e1, h1, h2⟩
  | gdi kvs => obtain ⟨a, e1, h1, h2, _⟩ := q; exact ⟨a, e1, h1, h2⟩
/-- a thing of the def's own is changed -/
theorem FR.updM (F : FR W Oc H0 O H σ env) {i : Nat} {s0 s' : Sl} {a : Addr} {o' : HO} (e : env[i]? = some (some s0)) (m0 : s0.mine = true) (m1 : s'.mine = true) (e1 : σ[i]? = some (some (.ref a))) (oa : O a) (a0 : H0 a = none) (mo : MutO o')
    (r' : Stab O H (upd H a o') → Slt W O H0 (upd H a o') σ i s') : FR W Oc H0 O (upd H a o') σ (env.set i (some s')) ∧ Stab O H (upd H a o') := by
  have st : Stab O H (upd H a o') := fun b o h n => by rw [upd_ne fun (z : b = a) => n (by rw [z]; exact oa)]; exact h
  have hZ : ¬ W.Z a := F.ownZ a0
  have hi : i < env.length := (List.getElem?_eq_some_iff.mp e).1
  refine ⟨⟨W.loc H _ (fun b z => upd_ne fun q => hZ (q ▸ z)) F.g, fun b o h n => ?_, F.zc, F.dc, F.oc, fun b h => ?_, by rw [List.length_set]; exact F.len, fun j s h => ?_, fun j k s1 s2 b hjk h1 h2 m3 m4 h3 h4 => ?_⟩, st⟩
  · rw [upd_ne fun z => by rw [z, a0] at h; cases h]; exact F.kept b o h n
  · rcases F.od b h with h | ⟨h, o, q, mq⟩
    · exact .inl h
    · refine .inr ⟨h, ?_⟩
      by_cases hb : b = a
      · rw [hb]; exact ⟨_, upd_same, mo⟩
      · exact ⟨o, by rw [upd_ne hb]; exact q, mq⟩
  · by_cases hj : i = j
    · subst hj
      rw [List.getElem?_set_self hi] at h
      cases h
      exact r' st
    · rw [List.getElem?_set_ne hj] at h
      have q := F.slot j s h
      cases s with
      | val d => obtain ⟨v, e2, r⟩ := q; exact ⟨v, e2, Rep.stab st r⟩
      | own fs =>
        obtain ⟨b, us, e2, h1, h2, h3, r⟩ := q
        refine ⟨b, us, e2, h1, h2, ?_, Reps.stab st r⟩
        rw [upd_ne fun z => F.dist i j s0 _ a hj e h m0 rfl e1 (by rw [← z]; exact e2)]
        exact h3
      | dic fs =>
        obtain ⟨b, e2, h1, h2, r⟩ := q
        have hb : b ≠ a := fun z => F.dist i j s0 _ a hj e h m0 rfl e1 (by rw [← z]; exact e2)
        exact ⟨b, e2, h1, h2, r.keep (fun o q => by rw [upd_ne hb]; exact q) st⟩
      | gdi fs =>
        obtain ⟨b, e2, h1, h2, r⟩ := q
        have hb : b ≠ a := fun z => F.dist i j s0 _ a hj e h m0 rfl e1 (by rw [← z]; exact e2)
        exact ⟨b, e2, h1, h2, r.keep (fun o q => by rw [upd_ne hb]; exact q) st⟩
  · have z : ∀ {j : Nat} {s : Sl}, (env.set i (some s'))[j]? = some (some s) → s.mine = true → ∃ t, env[j]? = some (some t) ∧ t.mine = true := fun {j s} h m => by
      by_cases hj : i = j
      · subst hj; exact ⟨_, e, m0⟩
      · rw [List.getElem?_set_ne hj] at h; exact ⟨_, h, m⟩
    obtain ⟨_, z1, n1⟩ := z h1 m3
    obtain ⟨_, z2, n2⟩ := z h2 m4
    exact F.dist j k _ _ b hjk z1 z2 n1 n2 h3 h4
/-- a list of the def's own is changed -/
theorem FR.updOwn (F : FR W Oc H0 O H σ env) {i : Nat} {ds ds' : List D} {a : Addr} {vs' : List V} (e : env[i]? = some (some (.own ds))) (e1 : σ[i]? = some (some (.ref a))) (oa : O a) (a0 : H0 a = none) (r' : Rps W O H ds' vs') :
    FR W Oc H0 O (upd H a (.lst vs')) σ (env.set i (some (.own ds'))) ∧ Stab O H (upd H a (.lst vs')) :=
  F.updM (s' := .own ds') e rfl rfl e1 oa a0 (.inl ⟨_, rfl⟩) fun st => ⟨a, vs', e1, oa, a0, upd_same, Reps.stab st r'⟩
/-- a slot takes a new thing as its own -/
theorem FR.putM (F : FR W Oc H0 O H σ env) {p : Addr} (F' : FR W Oc H0 (fun a => O a ∨ a = p) H σ env) (nO : ¬ O p) (i : Nat) {s' : Sl} (m1 : s'.mine = true) (hs' : i < env.length → Slt W (fun a => O a ∨ a = p) H0 H (σ.set i (some (.ref p))) i s') :
    FR W Oc H0 (fun a => O a ∨ a = p) H (σ.set i (some (.ref p))) (env.set i (some s')) := by
  by_cases hi : i < env.length
  · refine ⟨F'.g, F'.kept, F'.zc, F'.dc, F'.oc, F'.od, by rw [List.length_set, List.length_set]; exact F'.len, fun j s h => ?_, fun j k s1 s2 b hjk h1 h2 m3 m4 h3 h4 => ?_⟩
    · by_cases hj : i = j
      · subst hj
        rw [List.getElem?_set_self hi] at h
        cases h
        exact hs' hi
      · rw [List.getElem?_set_ne hj] at h
        have q := F'.slot j s h
        cases s with
        | val d' => obtain ⟨v', e1, r'⟩ := q; exact ⟨v', by rw [List.getElem?_set_ne hj]; exact e1, r'⟩
        | own ds => obtain ⟨a, vs, e1, q⟩ := q; exact ⟨a, vs, by rw [List.getElem?_set_ne hj]; exact e1, q⟩
        | dic kvs => obtain ⟨a, e1, q⟩ := q; exact ⟨a, by rw [List.getElem?_set_ne hj]; exact e1, q⟩
        | gdi kvs => obtain ⟨a, e1, q⟩ := q; exact ⟨a, by rw [List.getElem?_set_ne hj]; exact e1, q⟩
    · have key : ∀ {j k : Nat} {t : Sl}, i = j → i ≠ k → t.mine = true → (env.set i (some s'))[k]? = some (some t) → (σ.set i (some (.ref p)))[j]? = some (some (.ref b)) → (σ.set i (some (.ref p)))[k]? = some (some (.ref b)) → False := fun {j k t} hj hk mt h2 h3 h4 => by
        subst hj
        rw [List.getElem?_set_self (F.len ▸ hi)] at h3
        cases h3
        rw [List.getElem?_set_ne hk] at h2 h4
        obtain ⟨a, e1, oa, _⟩ := Slt.addr mt (F.slot k t h2)
        rw [h4] at e1
        cases e1
        exact nO oa
      by_cases hj : i = j
      · exact key hj (fun z => hjk (hj ▸ z)) m4 h2 h3 h4
      · by_cases hk : i = k
        · exact key hk hj m3 h1 h4 h3
        · rw [List.getElem?_set_ne hj] at h1 h3
          rw [List.getElem?_set_ne hk] at h2 h4
          exact F'.dist j k s1 s2 b hjk h1 h2 m3 m4 h3 h4
  · rw [List.set_eq_of_length_le (Nat.le_of_not_lt fun z => hi (by rw [F.len]; exact z)), List.set_eq_of_length_le (Nat.le_of_not_lt hi)]
    exact F'
theorem FR.putOwn (F : FR W Oc H0 O H σ env) {p : Addr} (F' : FR W Oc H0 (fun a => O a ∨ a = p) H σ env) (p0 : H0 p = none) (nO : ¬ O p) {vs : List V} {ds : List D} (hp : H p = some (.lst vs)) (r : Rps W (fun a => O a ∨ a = p) H ds vs) (i : Nat) :
    FR W Oc H0 (fun a => O a ∨ a = p) H (σ.set i (some (.ref p))) (env.set i (some (.own ds))) :=
  F.putM F' nO i rfl fun hi => ⟨p, vs, List.getElem?_set_self (F.len ▸ hi), .inr rfl, p0, hp, r⟩
/-- from here on the thing is a value -/
theorem FR.freezeM (F : FR W Oc H0 O H σ env) {i : Nat} {s0 : Sl} {a : Addr} {d : D} (e : env[i]? = some (some s0)) (m0 : s0.mine = true) (e1 : σ[i]? = some (some (.ref a))) (a0 : H0 a = none) (r : Rp W (fun b => O b ∧ b ≠ a) H d (.ref a)) : ∃ O', FR W Oc H0 O' H σ (env.set i (some (.val d))) ∧ Mv O H O' H := by
  have hi : i < env.length := (List.getElem?_eq_some_iff.mp e).1
  have sub : ∀ b, (O b ∧ b ≠ a) → O b := fun b h => h.1
  refine ⟨fun b => O b ∧ b ≠ a, ⟨F.g, F.kept, F.zc, F.dc, fun b h => ⟨F.oc b h, fun z => ?_⟩, fun b h => F.od b h.1, by rw [List.length_set]; exact F.len, fun j s h => ?_, fun j k s1 s2 b hjk h1 h2 m3 m4 h3 h4 => ?_⟩, Mv.less sub⟩
  · obtain ⟨o, q⟩ := F.dc b h
    rw [z, a0] at q; cases q
  · by_cases hj : i = j
    · subst hj
      rw [List.getElem?_set_self hi] at h
      cases h
      exact ⟨_, e1, r⟩
    · rw [List.getElem?_set_ne hj] at h
      have q := F.slot j s h
      cases s with
      | val d' => obtain ⟨v', e1, r'⟩ := q; exact ⟨v', e1, Rep.weak sub r'⟩
      | own fs =>
        obtain ⟨b, us, e2, h1, h2, h3, r2⟩ := q
        exact ⟨b, us, e2, ⟨h1, fun z => F.dist i j s0 _ a hj e h m0 rfl e1 (by rw [← z]; exact e2)⟩, h2, h3, Reps.weak sub r2⟩
      | dic fs =>
        obtain ⟨b, e2, h1, h2, r2⟩ := q
        exact ⟨b, e2, ⟨h1, fun z => F.dist i j s0 _ a hj e h m0 rfl e1 (by rw [← z]; exact e2)⟩, h2, r2.weak sub⟩
      | gdi fs =>
        obtain ⟨b, e2, h1, h2, r2⟩ := q
        exact ⟨b, e2, ⟨h1, fun z => F.dist i j s0 _ a hj e h m0 rfl e1 (by rw [← z]; exact e2)⟩, h2, r2.weak sub⟩
  · have z : ∀ {j : Nat} {s : Sl}, (env.set i (some (.val d)))[j]? = some (some s) → s.mine = true → env[j]? = some (some s) := fun {j s} h m => by
      by_cases hj : i = j
      · subst hj; rw [List.getElem?_set_self hi] at h; cases h; cases m
      · rw [List.getElem?_set_ne hj] at h; exact h
    exact F.dist j k _ _ b hjk (z h1 m3) (z h2 m4) m3 m4 h3 h4
theorem FR.freeze (F : FR W Oc H0 O H σ env) {i : Nat} {ds : List D} (e : env[i]? = some (some (.own ds))) : ∃ O', FR W Oc H0 O' H σ (env.set i (some (.val (.lst ds)))) ∧ Mv O H O' H := by
  obtain ⟨a, vs, e1, oa, a0, ha, r⟩ := F.own e
  exact F.freezeM e rfl e1 a0 ⟨a, vs, rfl, ha, fun z => z.2 rfl, Reps.weak (fun b h => h.1) r⟩
theorem FR.dic (F : FR W Oc H0 O H σ env) {i : Nat} {kvs : List (D × D)} (e : env[i]? = some (some (.dic kvs))) : ∃ a, σ[i]? = some (some (.ref a)) ∧ O a ∧ H0 a = none ∧ DicR W O H a (kvs.map (·.1)) (kvs.map (·.2)) := F.slot i _ e
theorem FR.freezeD (F : FR W Oc H0 O H σ env) {i : Nat} {kvs : List (D × D)} (e : env[i]? = some (some (.dic kvs))) : ∃ O', FR W Oc H0 O' H σ (env.set i (some (.val (.dct (kvs.map (·.1)) (kvs.map (·.2)))))) ∧ Mv O H O' H := by
  obtain ⟨a, e1, oa, a0, r⟩ := F.dic e
  have sub : ∀ b, (O b ∧ b ≠ a) → O b := fun b h => h.1
  exact F.freezeM e rfl e1 a0 ⟨a, rfl, fun z => z.2 rfl, r.weak sub⟩
end
section
variable {i : Nat} {x : Str} {e k : Expr} {m mk : ME} {f : MF} {pos pos' apos p : Pos}
theorem sv_setOwn (hN : X.N.Nodup) (hi : X.N[i]? = some x) (hx : Loc X.env.scope x) (h : FV X Tb e f) (hs : swapsWith e (some (.Name x pos')) pos.line X.env = pure false := by rfl)
    (hf : X.fn x = true ∨ X.env.scope.names.lookup x = some .local := by first | exact .inl rfl | exact .inr rfl | assumption) : SV X Tb (.Assign [.Name x pos'] e pos) (sSetOwn i f) := by
  obtain ⟨t, p, h⟩ := h.ex
  refine ⟨_, ps_set hN hi hx p hs hf, fun W Oc H0 O H σ env D E F hm k => ?_⟩
  refine h W Oc H0 O H σ env _ _ F hm fun H1 p vs ds e1 F1 F1' s1 pH p0 nO hp r q1 => ?_
  exact k.nx _ H1 _ _ (F1.putOwn F1' p0 nO hp r i) (fun a o e n => ⟨s1 a o e n, fun z => z.elim n fun z => by rw [z, pH] at e; cases e⟩) q1
/-- y = [..], y a local: its own -/
theorem sv_setOwnLc {vs : List Nat} {elt tg iter : Expr} {ifs : List Expr} {scope : Scope} {own : List (Str × Nat)} {mi : MI} {g : MG} {mt : MT} {me : ME} {us : List Nat} {spos : Pos} (hc : X.calm = true) (hN : X.N.Nodup) (hy : X.N[i]? = some x) (hyl : X.env.scope.names.lookup x = some .local)
    (hsw : swapsWith (.ListComp elt [⟨tg, iter, ifs, 0⟩] scope pos) (some (.Name x pos')) spos.line X.env = pure true) (hi : IV X Tb tg iter mi) (ok : BlkOk X.N X.env.scope scope own) (hus : ∀ i ∈ us, i ∈ own.map (·.2))
    (hg : ∀ (s : Shared) (H : Hp) (C : Addr) (cl : List (Str × Addr)) (fp : List Addr), GV (X.blk s H scope (compEnvC scope cl C X.env) fp) Tb tg g us)
    (ht : ∀ (s : Shared) (H : Hp) (C : Addr) (cl : List (Str × Addr)) (fp : List Addr), FTV (X.blk s H scope (compEnvC scope cl C X.env) fp) Tb ifs mt)
    (he : ∀ (s : Shared) (H : Hp) (C : Addr) (cl : List (Str × Addr)) (fp : List Addr), EV (X.blk s H scope (compEnvC scope cl C X.env) fp) Tb elt me) (hs : ∀ x, foldedSetIterable iter X.env x = pure x := by intro _; rfl) (hvs : own.map (·.2) = vs := by rfl) :
    SV X Tb (.Assign [.Name x pos'] (.ListComp elt [⟨tg, iter, ifs, 0⟩] scope pos) spos) (sSetOwn i (fLc mi g mt me vs)) := by
  subst hvs
  obtain ⟨wi, pi, hi⟩ := hi.ex
  refine ⟨_, ps_setLc hc hN hy hyl hsw pi ok (g := TGm X.K Tb g us) (tt := TTm X.K Tb mt) (te := TEm X.K Tb me) (fun s H C cl fp => (hg s H C cl fp).pg) (fun s H C cl fp => (ht s H C cl fp).pt) (fun s H C cl fp => (he s H C cl fp).pe) hs, fun W Oc H0 O H σ env D E F hm k => ?_⟩
  refine lc_read W Oc H0 O H σ env _ _ _ hus hi F hm fun H1 p vs ds e1 F1 F1' s1 pH p0 nO hp r q1 => ?_
  exact k.nx _ H1 _ _ (F1.putOwn F1' p0 nO hp r i) (fun a o e n => ⟨s1 a o e n, fun z => z.elim n fun z => by rw [z, pH] at e; cases e⟩) q1
theorem sv_append (hx : PE X (.Name x p) (tVar i)) (h : EV X Tb e m) (hs : swapsWith (.Call (.Attribute (.Name x p) "append" apos) [e] [] pos') none pos.line X.env = pure false := by rfl)
    (hb : attributeBase (.Name x p) "append" X.env (eval (.Name x p) X.env) = eval (.Name x p) X.env := by rfl) (hl : (apos.endLine == pos'.line) = true := by rfl) (he : starEach [e] X.env = (false, eval e X.env) :: starEach [] X.env := by rfl)
    (hfew : ((backTo pos' (starEach [e] X.env)).all (fun x => !x.1) && (backToKw pos' (keywordEach [] X.env)).all (fun x => x.1.isSome) && decide ([e].length + ([] : List Keyword).length + (if ([] : List Keyword).isEmpty then 0 else 1) < 30)) = true := by rfl) :
    SV X Tb (.Expr (.Call (.Attribute (.Name x p) "append" apos) [e] [] pos') pos) (sAppend i m) := by
  obtain ⟨t, pe, h⟩ := h.ex
  refine ⟨_, ps_expr (pe_bm PySem.F.plainAttrs_list PySem.F.slot_list_append PySem.F.type_list_append mt_append hx (pa_cons pe pa_nil he) hb hfew hl he) hs, fun W Oc H0 O H σ env D E F hm k => ?_⟩
  unfold sAppend at hm
  split at hm
  · rename_i ds0 e0
    obtain ⟨a, vs, e1, oa, a0, ha, r⟩ := F.own e0
    refine ⟨_, e1, .inl ⟨rfl, vs, SqL.of ha⟩, h W Oc H0 O H σ env _ _ F hm fun H1 v d env1 F1 s1 r1 q1 => ?_⟩
    split at q1
    · rename_i ds e2
      obtain ⟨a', vs1, e1', oa1, _, ha1, rr⟩ := F1.own e2
      rw [e1] at e1'
      cases e1'
      have z := rr.length
      refine ⟨a, vs1, v, rfl, rfl, ha1, by rw [z, ← ln_eq]; exact q1.1, ?_⟩
      obtain ⟨F2, s2⟩ := F1.updOwn (ds' := ds ++ [d]) (vs' := vs1 ++ [v]) e2 e1 oa1 a0 (rr.app (Reps.one r1))
      exact k.nx O _ _ _ F2 (Mv.of (s1.trans s2)) q1.2
    · exact False.elim q1
  · exact False.elim hm
theorem sv_extend (hx : PE X (.Name x p) (tVar i)) (h : EV X Tb e m) (hs : swapsWith (.Call (.Attribute (.Name x p) "extend" apos) [e] [] pos') none pos.line X.env = pure false := by rfl)
    (hb : attributeBase (.Name x p) "extend" X.env (eval (.Name x p) X.env) = eval (.Name x p) X.env := by rfl) (hl : (apos.endLine == pos'.line) = true := by rfl) (he : starEach [e] X.env = (false, eval e X.env) :: starEach [] X.env := by rfl)
    (hfew : ((backTo pos' (starEach [e] X.env)).all (fun x => !x.1) && (backToKw pos' (keywordEach [] X.env)).all (fun x => x.1.isSome) && decide ([e].length + ([] : List Keyword).length + (if ([] : List Keyword).isEmpty then 0 else 1) < 30)) = true := by rfl) :
    SV X Tb (.Expr (.Call (.Attribute (.Name x p) "extend" apos) [e] [] pos') pos) (sExtend i m) := by
  obtain ⟨t, pe, h⟩ := h.ex
  refine ⟨_, ps_expr (pe_bm PySem.F.plainAttrs_list PySem.F.slot_list_extend PySem.F.type_list_extend mt_extend hx (pa_cons pe pa_nil he) hb hfew hl he) hs, fun W Oc H0 O H σ env D E F hm k => ?_⟩
  unfold sExtend at hm
  split at hm
  · rename_i ds0 e0
    obtain ⟨a, vs, e1, oa, a0, ha, r⟩ := F.own e0
    refine ⟨_, e1, .inl ⟨rfl, vs, SqL.of ha⟩, h W Oc H0 O H σ env _ _ F hm fun H1 v d env1 F1 s1 r1 q1 => ?_⟩
    split at q1
    · rename_i ds es e2
      obtain ⟨a', vs1, e1', oa1, _, ha1, rr⟩ := F1.own e2
      rw [e1] at e1'
      cases e1'
      obtain ⟨b, us, rfl, hb2, nb, rb⟩ := r1
      have z := rr.length
      have z2 := rb.length
      refine ⟨a, b, vs1, us, rfl, rfl, ha1, hb2, by rw [z, z2, ← ln_eq]; exact q1.1, ?_⟩
      obtain ⟨F2, s2⟩ := F1.updOwn (ds' := ds ++ es) (vs' := vs1 ++ us) e2 e1 oa1 a0 (rr.app rb)
      exact k.nx O _ _ _ F2 (Mv.of (s1.trans s2)) q1.2
    · exact False.elim q1
  · exact False.elim hm
theorem sv_put {tpos : Pos} (hx : PE X (.Name x p) (tVar i)) (hk : EV X Tb k mk) (h : EV X Tb e m) (ha : ∀ v, assign (.Subscript (.Name x p) k tpos) X.env v = (do
      let ov ← holding [v] (eval (.Name x p) X.env)
      let iv ← holding [v, ov] (eval k X.env)
      standAt tpos
      holding [v, ov, iv] (setItem ov iv v)
      release [v, ov, iv] []) := by intro _; rfl)
    (hs : swapsWithSole [.Subscript (.Name x p) k tpos] e pos.line X.env = pure false := by rfl) (hw : swappedStores [.Subscript (.Name x p) k tpos] e X.env = pure none := by rfl)
    (h1 : (assignEach [.Subscript (.Name x p) k tpos] X.env).map (·.2) = [assign (.Subscript (.Name x p) k tpos) X.env] := by rfl) : SV X Tb (.Assign [.Subscript (.Name x p) k tpos] e pos) (sPut i mk m) := by
  obtain ⟨t, pe, h⟩ := h.ex
  obtain ⟨tk, pk, hk⟩ := hk.ex
  refine ⟨_, ps_asg pe (pg_sub hx pk set_list ha) hs hw h1, fun W Oc H0 O H σ env D E F hm kk => ?_⟩
  refine h W Oc H0 O H σ env _ _ F hm fun H1 v d e1 F1 s1 r1 q1 => ?_
  split at q1
  · rename_i ds0 e0
    obtain ⟨a, vs, e1', oa, a0, ha', r⟩ := F1.own e0
    refine ⟨_, e1', hk W Oc H0 O H1 σ e1 _ _ F1 q1 fun H2 j dj e2 F2 s2 r2 q2 => ?_⟩
    split at q2
    · rename_i ds jj e3
      obtain ⟨a', vs1, e4, oa1, _, ha1, rr⟩ := F2.own e3
      rw [e1'] at e4
      cases e4
      obtain ⟨n, hn, q3⟩ := q2
      refine ⟨a, vs1, jj, n, rfl, r2, ha1, by rw [rr.length]; exact hn, ?_⟩
      obtain ⟨F3, s3⟩ := F2.updOwn (ds' := ds.set n d) (vs' := vs1.set n v) e3 e1' oa1 a0 (Reps.set (Rep.stab s2 r1) n rr)
      exact kk.nx O _ _ _ F3 (Mv.of (s1.trans (s2.trans s3))) q3
    · exact False.elim q2
  · exact False.elim q1
theorem ev_popAt (hx : PE X (.Name x p) (tVar i)) (h : EV X Tb e m) (hb : attributeBase (.Name x p) "pop" X.env (eval (.Name x p) X.env) = eval (.Name x p) X.env := by rfl) (hl : (apos.endLine == pos'.line) = true := by rfl) (he : starEach [e] X.env = (false, eval e X.env) :: starEach [] X.env := by rfl)
    (hfew : ((backTo pos' (starEach [e] X.env)).all (fun x => !x.1) && (backToKw pos' (keywordEach [] X.env)).all (fun x => x.1.isSome) && decide ([e].length + ([] : List Keyword).length + (if ([] : List Keyword).isEmpty then 0 else 1) < 30)) = true := by rfl) :
    EV X Tb (.Call (.Attribute (.Name x p) "pop" apos) [e] [] pos') (ePopAt i m) := by
  obtain ⟨t, pe, h⟩ := h.ex
  refine ⟨_, pe_bm PySem.F.plainAttrs_list PySem.F.slot_list_pop PySem.F.type_list_pop mt_popAt hx (pa_cons pe pa_nil he) hb hfew hl he, fun W Oc H0 O H σ env Q P F hm hq => ?_⟩
  unfold ePopAt at hm
  split at hm
  · rename_i ds0 e0
    obtain ⟨a, vs, e1, oa, a0, ha, r⟩ := F.own e0
    refine ⟨_, e1, .inl ⟨rfl, vs, SqL.of ha⟩, h W Oc H0 O H σ env _ _ F hm fun H1 v d env1 F1 s1 r1 q1 => ?_⟩
    split at q1
    · rename_i ds kk e2
      obtain ⟨a', vs1, e1', oa1, _, ha1, rr⟩ := F1.own e2
      rw [e1] at e1'
      cases e1'
      obtain ⟨k0, k1, d', hd, hp⟩ := q1
      obtain ⟨u, eu, ru⟩ := rr.get hd
      have hlt : kk.toNat < vs1.length := (List.getElem?_eq_some_iff.mp eu).1
      refine ⟨a, vs1, kk, kk.toNat, u, rfl, by rw [show v = _ from r1], ha1, by omega, by omega, (ixN_seq (n := vs1.length) (by unfold L2.ixN; rw [if_pos k0, if_pos (by omega)])).1, eu, ?_⟩
      obtain ⟨F2, s2⟩ := F1.updOwn (ds' := ds.eraseIdx kk.toNat) (vs' := vs1.eraseIdx kk.toNat) e2 e1 oa1 a0 (rr.eraseIdx _)
      exact hq _ _ d' _ F2 (s1.trans s2) (Rep.stab s2 ru) hp
    · exact False.elim q1
  · exact False.elim hm
theorem ev_olen (hx : PE X (.Name x p) (tVar i)) (hg : Gl X "len") (hm : X.mg "len" = none) (he : starEach [.Name x p] X.env = (false, eval (.Name x p) X.env) :: starEach [] X.env := by rfl) (hpl : (backTo pos (starEach [] X.env)).any (·.1) = false := by rfl) :
    EV X Tb (.Call (.Name "len" pos') [.Name x p] [] pos) (eOLen i) := by
  refine ⟨_, pe_callB call_len_seq hg hm boot_len (pa_cons hx pa_nil he) (by decide) (by decide) he hpl, fun W Oc H0 O H σ env Q P F hm hq => ?_⟩
  unfold eOLen at hm
  split at hm
  · rename_i ds e0
    obtain ⟨a, vs, e1, oa, a0, ha, r⟩ := F.own e0
    refine ⟨_, e1, a, vs, rfl, .inl (SqL.of ha), ?_⟩
    have := r.length
    rw [this]
    exact hq H _ (.int _) env F Stab.refl rfl hm
  · exact False.elim hm
theorem bv_frz {st : List Stmt} {mb : MS} (i : Nat) (h : BV X Tb st mb) : BV X Tb st (sFrz i mb) := by
  obtain ⟨t, p, h⟩ := h.ex
  refine ⟨t, p, fun W Oc H0 O H σ env D E F hm k => ?_⟩
  unfold sFrz at hm
  split at hm
  · rename_i ds e0
    obtain ⟨O', F', mv⟩ := F.freeze e0
    exact h W Oc H0 O' H σ _ D E F' hm (k.mv mv)
  · exact h W Oc H0 O H σ env D E F hm k
end

/-! ### the body of a def -/
theorem start_len {N : List Str} {vs : List V} {n : Nat} (h : vs.length = n) (hn : n ≤ N.length) : (L2.start N vs).length = N.length := by
  unfold L2.start
  rw [List.length_append, List.length_map, List.length_replicate]; omega
/-- THE RULE for a def over data -/
theorem fn_d {P : Program} {w : World} {K : PySem.W.Frag} {mg : Str → Option Value} {base : Heap} {x qual : Str} {params : Arguments} {body : List Stmt} {scope : Scope} {f : Addr} {fd : FuncData} {N ps : List Str} {k : Nat} {F : FD} {mb : MS} (Fu : FunD K x qual params body scope [] [] f fd) (S : FnScope N ps scope)
    (hb : ∀ (cdv : Value) (A : Around) (outer : List PySem.Env) (s : Shared) (H : Hp) (E : XK), fd.code = cdv → Room k (A.deeper (envOfC qual scope s.heap.objs.size f cdv)) → BV (cxOf CX0 P w K mg base N qual scope f cdv A outer s H E).nox Tb body mb)
    (hF : ∀ ds Q, F ds Q → ds.length = ps.length ∧ mb { nx := fun _ => Q .non, rt := Q } (dstart N.length ds)) : FnOk P w K mg base CX0 (k + 1) f fd ps (spD K Tb F) := by
  obtain ⟨oc, od, dV, kV, doc, pm, an, cdv, ct, osl, rfl, lk, hcd, _, _⟩ := Fu.ex
  refine fn_of lk hcd S (fun vs H Q E h => ?_) (fun A outer s H vs Q E hr h => ?_)
  · obtain ⟨W, Oc, ds, R, _, _, _, r, hf, _⟩ := h
    rw [r.length]
    exact (hF ds R hf).1
  · obtain ⟨W, Oc, ds, R, g, zc, dc, r, hf, hq⟩ := h
    obtain ⟨hl, hm⟩ := hF ds R hf
    obtain ⟨t, p, hb⟩ := (hb cdv A outer s H E rfl hr).ex
    refine ⟨t, PSs.nox p, ?_⟩
    have hle : ps.length ≤ N.length := by
      have := congrArg List.length S.pre
      rw [List.length_take] at this
      omega
    have hvs := r.length
    refine hb W Oc H Oc H (L2.start N vs) (dstart N.length ds) _ _ ⟨g, fun _ _ h _ => h, zc, dc, fun _ h => h, fun _ h => .inl h, ?_, fun i s e => ?_, fun i j es fs a _ e _ mm => ?_⟩ hm
      ⟨fun O' H' σ' env' F' _ q => hq H' .non .non F'.rt rfl q, fun H' v d kp rv q => hq H' v d kp rv q, fun _ _ _ _ _ _ q => False.elim q, fun _ _ _ _ _ _ q => False.elim q, fun _ _ _ _ _ _ _ _ _ q => False.elim q⟩
    · unfold L2.start dstart
      simp only [List.length_append, List.length_map, List.length_replicate]
      rw [hvs]
    · unfold dstart at e
      by_cases hi : i < ds.length
      · rw [List.getElem?_append_left (by simpa using hi), List.getElem?_map, List.getElem?_eq_getElem hi] at e
        have e' : s = .val ds[i] := by simpa using e.symm
        subst e'
        obtain ⟨v, e1, r1⟩ := r.get (List.getElem?_eq_getElem hi)
        refine ⟨v, ?_, r1⟩
        unfold L2.start
        rw [List.getElem?_append_left (by rw [List.length_map, hvs]; exact hi), List.getElem?_map, e1]
        rfl
      · rw [List.getElem?_append_right (by simpa using hi)] at e
        rw [List.getElem?_replicate] at e
        split at e <;> cases e
    · unfold dstart at e
      by_cases hi : i < ds.length
      · rw [List.getElem?_append_left (by simpa using hi), List.getElem?_map, List.getElem?_eq_getElem hi] at e
        cases e; cases mm
      · rw [List.getElem?_append_right (by simpa using hi)] at e
        rw [List.getElem?_replicate] at e
        split at e <;> cases e
end DL

set_option Elab.async false
set_option linter.all false
set_option autoImplicit false
set_option maxRecDepth 100000
/-! DL5: the defs of a text, the law's pool of draws. -/
namespace DL
open PySem PySem.Spec PyProof.Rows L2

/-- the built-ins' names are the module's own nowhere -/
structure Blt (mg : Str → Option Value) : Prop where
  len : mg "len" = none
  range : mg "range" = none
  isinstance : mg "isinstance" = none
  int : mg "int" = none
  bool : mg "bool" = none
  str : mg "str" = none
  tuple : mg "tuple" = none
  list : mg "list" = none
  sorted : mg "sorted" = none
  min : mg "min" = none
  max : mg "max" = none
  sum : mg "sum" = none
  any : mg "any" = none
  all : mg "all" = none
  zip : mg "zip" = none
  enumerate : mg "enumerate" = none
  reversed : mg "reversed" = none
  set : mg "set" = none
  repr : mg "repr" = none
  dict : mg "dict" = none
  abs : mg "abs" = none
/-- a def of the text stands -/
structure Df0 (K : PySem.W.Frag) (mg : Str → Option Value) (x : Str) (st : Stmt) (ps : List Str) : Prop where
  ex : ∃ f fd, FunD K x x (defArgs st) (defBody st) (defScope st) [] [] f fd ∧ mg x = some (.ref f) ∧ Binds K fd ps []
/-- .. with its code object -/
structure Df1 (K : PySem.W.Frag) (mg : Str → Option Value) (x : Str) (st : Stmt) (ps : List Str) (c : Addr) : Prop where
  ex : ∃ f fd, FunD K x x (defArgs st) (defBody st) (defScope st) [] [] f fd ∧ mg x = some (.ref f) ∧ Binds K fd ps [] ∧ fd.code = .ref c
/-- .. and keeps its promise -/
structure DfOk (P : Program) (w : World) (K : PySem.W.Frag) (mg : Str → Option Value) (base : Heap) (x : Str) (ps : List Str) (k : Nat) (sp : Sp) : Prop where
  ex : ∃ f fd, FnOk P w K mg base CX0 k f fd ps sp ∧ mg x = some (.ref f) ∧ PySem.W.keepIn K (.ref f) = true ∧ Binds K fd ps []
section
variable {P : Program} {w : World} {K : PySem.W.Frag} {mg : Str → Option Value} {base : Heap} {Tb : Addr → Prop}
theorem df_ok {x : Str} {st : Stmt} {N ps : List Str} {k : Nat} {F : FD} {mb : MS} (d : Df0 K mg x st ps) (S : FnScope N ps (defScope st))
    (hb : ∀ (f : Addr) (cdv : Value) (A : Around) (outer : List PySem.Env) (s : Shared) (H : Hp) (E : XK), Room k (A.deeper (envOfC x (defScope st) s.heap.objs.size f cdv)) → BV (cxOf CX0 P w K mg base N x (defScope st) f cdv A outer s H E).nox Tb (defBody st) mb)
    (hF : ∀ ds Q, F ds Q → ds.length = ps.length ∧ mb { nx := fun _ => Q .non, rt := Q } (dstart N.length ds)) : DfOk P w K mg base x ps (k + 1) (spD K Tb F) := by
  obtain ⟨f, fd, h, g, b⟩ := d.ex
  exact ⟨f, fd, fn_d h S (fun cdv A outer s H E _ r => hb f cdv A outer s H E r) hF, g, h.kp, b⟩
theorem df_okC {x : Str} {st : Stmt} {N ps : List Str} {k : Nat} {F : FD} {mb : MS} {c : Addr} (d : Df1 K mg x st ps c) (S : FnScope N ps (defScope st))
    (hb : ∀ (f : Addr) (A : Around) (outer : List PySem.Env) (s : Shared) (H : Hp) (E : XK), Room k (A.deeper (envOfC x (defScope st) s.heap.objs.size f (.ref c))) → BV (cxOf CX0 P w K mg base N x (defScope st) f (.ref c) A outer s H E).nox Tb (defBody st) mb)
    (hF : ∀ ds Q, F ds Q → ds.length = ps.length ∧ mb { nx := fun _ => Q .non, rt := Q } (dstart N.length ds)) : DfOk P w K mg base x ps (k + 1) (spD K Tb F) := by
  obtain ⟨f, fd, h, g, b, e⟩ := d.ex
  exact ⟨f, fd, fn_d h S (fun cdv A outer s H E q r => by
    have z : cdv = .ref c := q.symm.trans e
    subst z
    exact hb f A outer s H E r) hF, g, h.kp, b⟩
theorem df_zeroC {x : Str} {st : Stmt} {N ps : List Str} {k : Nat} {F : FD} {c : Addr} (d : Df1 K mg x st ps c) (S : FnScope N ps (defScope st)) (hF : ∀ ds Q, ¬ F ds Q) : DfOk P w K mg base x ps (k + 1) (spD K Tb F) := by
  obtain ⟨f, fd, h, g, b, _⟩ := d.ex
  exact ⟨f, fd, h.ok S (fun vs H Q E h => by obtain ⟨W, Oc, ds, R, _, _, _, r, hf, _⟩ := h; exact absurd hf (hF ds R)) (fun cdv A outer s H vs Q E hr h => by obtain ⟨W, Oc, ds, R, _, _, _, r, hf, _⟩ := h; exact absurd hf (hF ds R)), g, h.kp, b⟩
theorem df_zero {x : Str} {st : Stmt} {N ps : List Str} {k : Nat} {F : FD} (d : Df0 K mg x st ps) (S : FnScope N ps (defScope st)) (hF : ∀ ds Q, ¬ F ds Q) : DfOk P w K mg base x ps (k + 1) (spD K Tb F) := by
  obtain ⟨f, fd, h, g, b⟩ := d.ex
  exact ⟨f, fd, h.ok S (fun vs H Q E h => by obtain ⟨W, Oc, ds, R, _, _, _, r, hf, _⟩ := h; exact absurd hf (hF ds R)) (fun cdv A outer s H vs Q E hr h => by obtain ⟨W, Oc, ds, R, _, _, _, r, hf, _⟩ := h; exact absurd hf (hF ds R)), g, h.kp, b⟩
theorem df_raw {x : Str} {st : Stmt} {ps : List Str} {k : Nat} {sp : Sp} (d : Df0 K mg x st ps) (h : ∀ f fd, FunD K x x (defArgs st) (defBody st) (defScope st) [] [] f fd → FnOk P w K mg base CX0 k f fd ps sp) : DfOk P w K mg base x ps k sp := by
  obtain ⟨f, fd, q, g, b⟩ := d.ex
  exact ⟨f, fd, h f fd q, g, q.kp, b⟩
end
section
variable {X : Cx} {Tb : Addr → Prop} {e : Expr} {es : List Expr} {mr : MA} {pos p : Pos}
/-- f(..), f a def of the text at level j -/
theorem ev_cl {x : Str} {j k : Nat} {ps : List Str} {F : FD} (d : DfOk X.prog X.w X.K X.mg X.base x ps j (spD X.K Tb F)) (hr : Room k X.A) (hjk : j ≤ k) (ha : AV X Tb (e :: es) mr) (hg : Gl X x := by rfl) (hdb : (x == ("__debug__" : Str)) = false := by decide)
    (he : starEach (e :: es) X.env = (false, eval e X.env) :: starEach es X.env := by rfl) (hpl : (backTo pos (starEach es X.env)).any (·.1) = false := by rfl) : EV X Tb (.Call (.Name x p) (e :: es) [] pos) (eCall F mr) := by
  obtain ⟨f, fd, h, g, kp, b⟩ := d.ex
  exact ev_call h (hr.mono hjk) hg g kp b ha hdb he hpl
theorem ev_cl0 {x : Str} {j k : Nat} {ps : List Str} {F : FD} (d : DfOk X.prog X.w X.K X.mg X.base x ps j (spD X.K Tb F)) (hr : Room k X.A) (hjk : j ≤ k) (hg : Gl X x := by rfl) (hdb : (x == ("__debug__" : Str)) = false := by decide) : EV X Tb (.Call (.Name x p) [] [] pos) (eCall F aNil) := by
  obtain ⟨f, fd, h, g, kp, b⟩ := d.ex
  exact ev_call0 h (hr.mono hjk) hg g kp b hdb
end
end DL

set_option Elab.async false
set_option linter.all false
set_option autoImplicit false
set_option maxRecDepth 100000
/-! DL6: more operators, slices, new lists, enumerate. -/
namespace DL
open PySem PySem.Spec PyProof.Rows L2
variable {X : Cx} {Tb : Addr → Prop}

/-! ### tuple * 1 -/
theorem tuple_mul_one (l : Addr) (items : Array Value) (n : Nat) (dd : Option Addr) (sl : Array (Option Value)) (u : Tok) :
    Meets (Builtin.«tuple.__mul__» ⟨[.ref l, .int 1 u], []⟩) (fun _ R s => s.heap.get? l = some { cls := .type "tuple", dict := dd, data := .seq items n, slots := sl } ∧ R (.ok (.ret (Value.ref l))) s) :=
  .of_wp fun prog w A R s h => by
    obtain ⟨hp, g, d, tk, os⟩ := s
    obtain ⟨hl, h⟩ := h
    have f1 := AutoSeq1.idx_int
    wp_walk using wpAny_loadPart' hl
    exact ⟨_, rfl, h⟩
theorem tuple_mul_zero (l : Addr) (a : Value) (as : List Value) (n : Nat) (dd : Option Addr) (sl : Array (Option Value)) (u : Tok) :
    Meets (Builtin.«tuple.__mul__» ⟨[.ref l, .int 0 u], []⟩) (fun _ R s => s.heap.get? l = some { cls := .type "tuple", dict := dd, data := .seq (a :: as).toArray n, slots := sl } ∧ R (.ok (.ret (Value.ref s.heap.objs.size))) { s with heap := s.heap.push { cls := .type "tuple", data := .seq #[] } }) :=
  .of_wp fun prog w A R s h => by
    obtain ⟨hp, g, d, tk, os⟩ := s
    obtain ⟨hl, h⟩ := h
    have f1 := AutoSeq1.idx_int
    wp_walk using wpAny_loadPart' hl
    exact ⟨_, rfl, h⟩
def rRepZero : R2 := fun x y H Q => ∃ l xs, x = .ref l ∧ y = .int 0 ∧ Rd H l (.tup xs) ∧ xs ≠ [] ∧ ∀ q, H q = none → Q (.ref q) (upd H q (.tup []))
theorem op_repZero : OpR X (binaryOp .Mult) rRepZero := by
  intro pins s σ H x y v u Q I rx ry h
  obtain ⟨l, xs, rfl, rfl, hT, hne, q⟩ := h
  cases rx
  obtain ⟨t, rfl⟩ := ry
  obtain ⟨its, r, ⟨⟨cls, dd, data, sl⟩, ho, hc, n, hd⟩, hs⟩ := I.tuple (sqRd hT)
  simp only at hc hd
  subst hc hd
  cases r with
  | nil => exact absurd rfl hne
  | @cons x1 v1 xs1 its1 r1 r2 =>
  refine wpAny_binaryOp_repeat_ref (T := "tuple") (U := "int") (by decide) ⟨_, ho, rfl⟩ (fun s' => typeIs_int s' 0 t) noFill_tuple_mul F.fills_int_mul F.slot_int_rmul repeat_tuple F.slot_int_index.lookup
    (call_meets F.slot_int_rmul (typeIs_int s 0 t) F.entry_int_rmul (F.args_int_rmul_2 _ _) (int_rmul_tuple 0 t l (v1 :: its1).toArray n dd sl)
      ⟨ho, rfl, ⟨_, ho, rfl⟩, call_meets F.slot_tuple_mul ⟨_, ho, rfl⟩ F.entry_tuple_mul (F.args_tuple_mul_2 _ _) (tuple_mul_zero l v1 its1 n dd sl t) ⟨ho, ?_⟩⟩)
  exact ⟨.ref s.heap.objs.size, _, I.laid (t' := s.toks) (o := .tup []) (fun b ob q => Heap.get?_push_of_some _ q) (Nat.le_refl _) ⟨Nat.zero_le _, [], .nil, IsTup.new _ _⟩, rfl, q _ (I.hok.fresh (Nat.le_refl _))⟩
def rRepOne : R2 := fun x y H Q => ∃ l xs, x = .ref l ∧ y = .int 1 ∧ Rd H l (.tup xs) ∧ Q (.ref l) H
theorem op_repOne : OpR X (binaryOp .Mult) rRepOne := by
  intro pins s σ H x y v u Q I rx ry h
  obtain ⟨l, xs, rfl, rfl, hT, q⟩ := h
  cases rx
  obtain ⟨t, rfl⟩ := ry
  obtain ⟨its, r, ⟨⟨cls, dd, data, sl⟩, ho, hc, n, hd⟩, hs⟩ := I.tuple (sqRd hT)
  simp only at hc hd
  subst hc hd
  refine wpAny_binaryOp_repeat_ref (T := "tuple") (U := "int") (by decide) ⟨_, ho, rfl⟩ (fun s' => typeIs_int s' 1 t) noFill_tuple_mul F.fills_int_mul F.slot_int_rmul repeat_tuple F.slot_int_index.lookup
    (call_meets F.slot_int_rmul (typeIs_int s 1 t) F.entry_int_rmul (F.args_int_rmul_2 _ _) (int_rmul_tuple 1 t l its.toArray n dd sl)
      ⟨ho, rfl, ⟨_, ho, rfl⟩, call_meets F.slot_tuple_mul ⟨_, ho, rfl⟩ F.entry_tuple_mul (F.args_tuple_mul_2 _ _) (tuple_mul_one l its.toArray n dd sl t) ⟨ho, ?_⟩⟩)
  exact ⟨.ref l, H, I, rfl, q⟩
theorem ov_rep1 : OV X (binaryOp .Mult) oRep1 := by
  refine ⟨_, op_mul.or (op_repOne.or ((op_repT.or op_repZero).or op_rep)), fun Pl O H x y v u Q P hO rx ry h hq => ?_⟩
  cases x <;> cases y <;> first | exact False.elim h | skip
  · exact .inl ⟨_, _, rx, ry, h.1, hq H _ (.int _) (Same.refl _) rfl h.2⟩
  · rename_i ds k
    obtain ⟨hne, h1, h2, h3, hp⟩ := h
    obtain ⟨a, vs, rfl, qa, na, ra⟩ := id rx
    by_cases hk : k = 1
    · subst hk
      have e : (List.replicate (1 : Int).toNat ds).flatten = ds := by simp
      rw [e] at hp
      exact .inr (.inl ⟨a, vs, rfl, ry, qa, hq H _ _ (Same.refl _) rx hp⟩)
    · by_cases hk0 : k = 0
      · subst hk0
        refine .inr (.inr (.inl (.inr ⟨a, vs, rfl, ry, qa, fun z => hne ?_, fun p hp2 => hq _ _ (.tup []) (same_upd hp2) (rep_new_tup hO rfl hp2) (by simpa using hp)⟩)))
        have := ra.length
        rw [z] at this
        exact List.eq_nil_of_length_eq_zero this.symm
      refine .inr (.inr (.inl (.inl ⟨a, k, vs, rfl, ry, sqRd qa, fun z => hne ?_, by omega, h3, by rw [ra.length]; exact h1, fun p hp2 => hq _ _ _ (same_upd hp2) (rep_new_tup hO (ra.rep k.toNat) hp2) hp⟩)))
      have := ra.length
      rw [z] at this
      exact List.eq_nil_of_length_eq_zero this.symm
  · rename_i ds k
    obtain ⟨h1, h2, h3, hp⟩ := h
    obtain ⟨a, vs, rfl, qa, na, ra⟩ := id rx
    exact .inr (.inr (.inr ⟨a, k, vs, rfl, ry, qa, by omega, by omega, by rw [ra.length, ← ln_eq]; exact h3, fun p hp2 => hq _ _ _ (same_upd hp2) (rep_new_lst hO (ra.rep k.toNat) hp2) hp⟩))

/-! ### slices -/
theorem sIx_eq (n d : Nat) (o : Option Int) : HT.sIx n d o = DL.sIx n d o := by cases o <;> rfl
theorem cut_len {α : Type} (xs : List α) (lo hi : Option Int) : (cut xs lo hi).length ≤ xs.length := by
  unfold cut
  rw [List.length_take, List.length_drop]; omega
section
variable {e : Expr} {m : ME} {pos p2 p : Pos}
structure OV_ (X : Cx) (Tb : Addr → Prop) (e : Option Expr) (m : DEnv → (Option Int → DEnv → Prop) → Prop) : Prop where
  ex : ∃ t, PO X e t ∧ ∀ (W : Wd X.K Tb) (Oc : Addr → Prop) (H0 : Hp) (O : Addr → Prop) (H : Hp) (σ : St) (env : DEnv) (Q : Option Int → Hp → Prop) (P : Option Int → DEnv → Prop), FR W Oc H0 O H σ env → m env P →
    (∀ H' k env', FR W Oc H0 O H' σ env' → Stab O H H' → P k env' → Q k H') → t σ H Q
theorem po_no : OV_ X Tb none pNo := ⟨_, po_none, fun W Oc H0 O H σ env Q P F hm hq => hq H none env F Stab.refl hm⟩
theorem po_at (h : EV X Tb e m) : OV_ X Tb (some e) (pAt m) := by
  obtain ⟨t, pe, h⟩ := h.ex
  refine ⟨_, po_some pe, fun W Oc H0 O H σ env Q P F hm hq => ?_⟩
  refine h W Oc H0 O H σ env _ _ F hm fun H1 v d e1 F1 s1 r1 q1 => ?_
  cases d with
  | int i => exact ⟨i, r1, hq H1 _ e1 F1 s1 q1⟩
  | _ => exact False.elim q1
theorem Reps.cut {K : PySem.W.Frag} {Pl O : Addr → Prop} {H : Hp} {ds : List D} {vs : List V} (r : Reps K Pl O H ds vs) (lo hi : Option Int) : Reps K Pl O H (DL.cut ds lo hi) (cutV vs lo hi) := by
  unfold DL.cut cutV
  rw [r.length, sIx_eq, sIx_eq]
  exact (r.drop _).take _
theorem ev_cut {lo hi : Option Expr} {ml mh : DEnv → (Option Int → DEnv → Prop) → Prop} (h : EV X Tb e m) (hl : OV_ X Tb lo ml) (hh : OV_ X Tb hi mh) : EV X Tb (.Subscript e (.Slice lo hi none p2) pos) (eCut m ml mh) := by
  obtain ⟨t, pe, h⟩ := h.ex
  obtain ⟨tl, pl, hl⟩ := hl.ex
  obtain ⟨th, ph, hh⟩ := hh.ex
  refine ⟨_, pe_slice (sl_tupA.or (sl_list.or L2.sl_str)) pe pl ph, fun W Oc H0 O H σ env Q P F hm hq => ?_⟩
  refine h W Oc H0 O H σ env _ _ F hm fun H1 v d e1 F1 s1 r1 q1 => ?_
  refine hl W Oc H0 O H1 σ e1 _ _ F1 q1 fun H2 l e2 F2 s2 q2 => ?_
  refine hh W Oc H0 O H2 σ e2 _ _ F2 q2 fun H3 u e3 F3 s3 q3 => ?_
  have r3 : Rp W O H3 d v := Rep.stab (s2.trans s3) r1
  have st := s1.trans (s2.trans s3)
  cases d with
  | tup xs =>
    obtain ⟨a, vs, rfl, qa, na, ra⟩ := id r3
    refine .inl ⟨a, vs, rfl, sqRd qa, fun ⟨z1, z2⟩ => ?_, fun _ p hp => ?_⟩
    · have : DL.cut xs l u = xs := by
        unfold DL.cut
        rw [← sIx_eq, ← sIx_eq, ← ra.length, z1, z2, List.drop_zero, Nat.sub_zero, ra.length, List.take_length]
      have q4 : P (.tup (DL.cut xs l u)) e3 := q3
      rw [this] at q4
      exact hq H3 _ _ e3 F3 st r3 q4
    · exact hq _ _ _ e3 (F3.same (same_upd hp)) (st.trans (Stab.of (same_upd hp))) (new_tup F3 (ra.cut l u) hp) q3
  | lst xs =>
    obtain ⟨a, vs, rfl, qa, na, ra⟩ := id r3
    exact .inr (.inl ⟨a, vs, rfl, SqL.of qa, fun p hp => hq _ _ _ e3 (F3.same (same_upd hp)) (st.trans (Stab.of (same_upd hp))) (new_lst F3 (ra.cut l u) hp) q3⟩)
  | frz ns =>
    obtain ⟨a, rfl, qa⟩ := id r3
    exact .inr (.inl ⟨a, _, rfl, frz_sq qa, fun p hp => hq _ _ _ e3 (F3.same (same_upd hp)) (st.trans (Stab.of (same_upd hp))) (new_lst F3 ((reps_ints ns).cut l u) hp) q3⟩)
  | str w => exact .inr (.inr ⟨w, r3, by rw [← ln_eq]; exact q3.1, hq H3 _ (.str _) e3 F3 st rfl q3.2⟩)
  | _ => exact False.elim q3

/-! ### new lists -/
theorem rgV_reps {K : PySem.W.Frag} {Pl O : Addr → Prop} {H : Hp} : ∀ (n : Nat) (lo : Int), Reps K Pl O H (intsD lo n) ((List.range n).map fun i => V.int (lo + (i : Nat)))
  | 0, lo => rfl
  | n + 1, lo => by
    rw [List.range_succ_eq_map, List.map_cons, List.map_map]
    refine ⟨_, _, rfl, ?_, ?_⟩
    · show V.int (lo + ((0 : Nat) : Int)) = V.int lo
      congr 1; simp
    · have ih := rgV_reps (K := K) (Pl := Pl) (O := O) (H := H) n (lo + 1)
      have e : (List.range n).map ((fun i => V.int (lo + (i : Nat))) ∘ Nat.succ) = (List.range n).map fun i => V.int (lo + 1 + (i : Nat)) := by
        refine List.map_congr_left fun i _ => ?_
        show V.int (lo + ((i + 1 : Nat) : Int)) = V.int (lo + 1 + (i : Nat))
        congr 1; omega
      rw [e]; exact ih
theorem fv_of {e : Expr} {m : MF} {t : TE} (p : PE X e t) (h : ∀ (W : Wd X.K Tb) (Oc : Addr → Prop) (H0 : Hp) (O : Addr → Prop) (H : Hp) (σ : St) (env : DEnv) (Q : VK) (P : List D → DEnv → Prop), FR W Oc H0 O H σ env → m env P →
    (∀ H1 vs ds e1, FR W Oc H0 O H1 σ e1 → Stab O H H1 → Rps W O H1 ds vs → P ds e1 → ∀ p, H1 p = none → Q (.ref p) (upd H1 p (.lst vs))) → t σ H Q) : FV X Tb e m := by
  refine ⟨t, p, fun W Oc H0 O H σ env Q P F hm hq => ?_⟩
  refine h W Oc H0 O H σ env Q P F hm fun H1 vs ds e1 F1 s1 r1 q1 p hp => ?_
  have mv : Mv O H1 (fun a => O a ∨ a = p) (upd H1 p (.lst vs)) := fun a o e n => ⟨same_upd hp a o e, fun z => z.elim n fun z => by rw [z, hp] at e; cases e⟩
  exact hq _ p vs ds e1 (F1.same (same_upd hp)) (F1.addO hp (Keep.same F1.g (same_upd hp)) ⟨_, upd_same, .inl ⟨_, rfl⟩⟩) (s1.trans (Stab.of (same_upd hp))) (F.back F1 s1 hp) (F1.new0 hp) (F1.nO hp) upd_same (Reps.mv mv r1) q1
theorem fv_listR1 {a : Expr} {p2 p3 : Pos} (hc : X.calm = true) (hg : Gl X "list") (hm : X.mg "list" = none) (hg2 : Gl X "range") (hm2 : X.mg "range" = none) (h : EV X Tb a m) (na : starEach [a] X.env = (false, eval a X.env) :: starEach [] X.env := by rfl)
    (nb : starEach [.Call (.Name "range" p2) [a] [] p3] X.env = (false, eval (.Call (.Name "range" p2) [a] [] p3) X.env) :: starEach [] X.env := by rfl) : FV X Tb (.Call (.Name "list" p) [.Call (.Name "range" p2) [a] [] p3] [] pos) (fListR1 m) := by
  obtain ⟨t, pe, h⟩ := h.ex
  refine fv_of (pe_listRg hc hg hm (prg_1 hg2 hm2 pe na) nb) fun W Oc H0 O H σ env Q P F hm hq => ?_
  refine h W Oc H0 O H σ env _ _ F hm fun H1 v d e1 F1 s1 r1 q1 => ?_
  cases d with
  | int n =>
    obtain ⟨h0, h1, q1⟩ := q1
    refine ⟨n, r1, RgOk.of_le (by omega) (by omega) (by omega) (by omega), fun q hqn => ?_⟩
    refine hq H1 (rgV 0 n) _ e1 F1 s1 ?_ q1 q hqn
    have e : (n - 0).toNat = n.toNat := by omega
    unfold rgV
    rw [e]
    exact rgV_reps n.toNat 0
  | _ => exact False.elim q1
theorem fv_listOf (hg : Gl X "list") (hm : X.mg "list" = none) (h : EV X Tb e m) (na : starEach [e] X.env = (false, eval e X.env) :: starEach [] X.env := by rfl) : FV X Tb (.Call (.Name "list" p) [e] [] pos) (fListOf m) := by
  obtain ⟨t, pe, h⟩ := h.ex
  refine fv_of (pe_callTy call_list_of hg hm boot_list (pa_cons pe pa_nil na) (by decide) (by decide) na (by rfl)) fun W Oc H0 O H σ env Q P F hm hq => ?_
  refine h W Oc H0 O H σ env _ _ F hm fun H1 v d e1 F1 s1 r1 q1 => ?_
  cases d with
  | tup xs =>
    obtain ⟨a, vs, rfl, qa, na, ra⟩ := r1
    exact ⟨a, vs, rfl, .inr (sqRd qa), hq H1 vs xs e1 F1 s1 ra q1⟩
  | lst xs =>
    obtain ⟨a, vs, rfl, qa, na, ra⟩ := r1
    exact ⟨a, vs, rfl, .inl (SqL.of qa), hq H1 vs xs e1 F1 s1 ra q1⟩
  | frz ns =>
    obtain ⟨a, rfl, qa⟩ := r1
    exact ⟨a, _, rfl, .inl (frz_sq qa), hq H1 _ _ e1 F1 s1 (reps_ints ns) q1⟩
  | _ => exact False.elim q1

/-! ### enumerate -/
theorem enumT_get : ∀ (xs : List D) (n : Int) (i : Nat) (d : D), (enumT n xs)[i]? = some d → ∃ x, xs[i]? = some x ∧ d = .tup [.int (n + i), x]
  | [], n, i, d, h => by simp [enumT] at h
  | x :: xs, n, 0, d, h => by
    simp [enumT] at h; subst h
    exact ⟨x, rfl, by simp⟩
  | x :: xs, n, i + 1, d, h => by
    obtain ⟨y, h1, h2⟩ := enumT_get xs (n + 1) i d (by simpa [enumT] using h)
    refine ⟨y, by simpa using h1, ?_⟩
    rw [h2]; congr 3; omega
theorem enumT_len : ∀ (xs : List D) (n : Int), (enumT n xs).length = xs.length
  | [], _ => rfl
  | x :: xs, n => by simp [enumT, enumT_len xs]
theorem iv_enumL {elts : List Expr} {kk : Nat} {tpos : Pos} (hg : Gl X "enumerate") (hm : X.mg "enumerate" = none) (h : EV X Tb e m) (hs : starEach [e] X.env = [(false, eval e X.env)] := by rfl) :
    IV X Tb (.Tuple elts kk tpos) (.Call (.Name "enumerate" p) [e] [] pos) (iEnumL m) := by
  obtain ⟨t, pe, h⟩ := h.ex
  refine ⟨_, pi_enum hg hm (pa_cons pe pa_nil hs) hs, fun W Oc H0 O H σ env R P F hm hq => ?_⟩
  refine h W Oc H0 O H σ env _ _ F hm fun H1 v d e1 F1 s1 r1 q1 => ?_
  cases d with
  | lst xs =>
    obtain ⟨a, vs, rfl, qa, na, ra⟩ := r1
    refine ⟨a, vs, rfl, SqL.of qa, hq H1 _ _ e1 F1 s1 (fun O2 H2 mv hO i => ⟨fun d hd => ?_, fun hle => ?_⟩) q1⟩
    · obtain ⟨q2, n2⟩ := mv a _ qa na
      obtain ⟨y, hy, rfl⟩ := enumT_get xs 0 i d hd
      obtain ⟨v, e2, r2⟩ := ra.get hy
      refine ⟨⟨vs, v, SqL.of q2, e2⟩, fun x H3 ⟨T, x0, ex, hT, eH, hy2⟩ => ?_⟩
      subst ex eH
      have e3 := hy2 vs (SqL.of q2)
      rw [e2] at e3
      cases e3
      refine ⟨same_upd hT, rep_new_tup hO ⟨_, _, rfl, ?_, _, _, rfl, Rep.mv mv r2, rfl⟩ hT⟩
      show V.int _ = V.int _
      congr 1; omega
    · exact ⟨vs, SqL.of (mv a _ qa na).1, by rw [ra.length]; rw [enumT_len] at hle; exact hle⟩
  | _ => exact False.elim q1
end
end DL

set_option Elab.async false
set_option linter.all false
set_option autoImplicit false
set_option maxRecDepth 100000
/-! DP: within the law's draws: the pool is read and written. -/
namespace DL
open PySem PySem.Spec PyProof.Rows L2

section
variable {K : PySem.W.Frag} {Tb : Addr → Prop}
/-- H with what p and q held -/
def mix (H0 : Hp) (p q : Addr) (H : Hp) : Hp := fun a => if a = p ∨ a = q then H0 a else H a
theorem mix_in {H0 H : Hp} {p q a : Addr} (h : a = p ∨ a = q) : mix H0 p q H a = H0 a := by unfold mix; rw [if_pos h]
theorem mix_out {H0 H : Hp} {p q a : Addr} (h : ¬ (a = p ∨ a = q)) : mix H0 p q H a = H a := by unfold mix; rw [if_neg h]
def WdR (W : Wd K Tb) (H0 : Hp) (p q : Addr) (hp : ∃ xs, H0 p = some (.lst xs)) (hq : ∃ xs, H0 q = some (.lst xs)) : Wd K Tb where
  Pl := fun _ => False
  Z := fun a => W.Z a ∧ ¬ (a = p ∨ a = q)  ∨ Tb a
  G := fun H => W.G (mix H0 p q H)
  pz := fun _ h => h.elim
  tz := fun a h => .inr h
  loc := fun H H' h g => W.loc _ _ (fun a z => by
    by_cases e : a = p ∨ a = q
    · rw [mix_in e, mix_in e]
    · rw [mix_out e, mix_out e]; exact h a (.inl ⟨z, e⟩)) g
  dom := fun H a g z => by
    rcases z with ⟨z, e⟩ | z
    · have := W.dom _ a g z
      rwa [mix_out e] at this
    · by_cases e : a = p ∨ a = q
      · obtain ⟨t, h, _⟩ := W.tab _ a g z
        rw [mix_in e] at h
        rcases e with rfl | rfl
        · obtain ⟨xs, e⟩ := hp; rw [e] at h; cases h
        · obtain ⟨xs, e⟩ := hq; rw [e] at h; cases h
      · have := W.dom _ a g (W.tz a z)
        rwa [mix_out e] at this
  pq := fun _ => 0
  pool := fun _ _ _ h => h.elim
  pools := fun _ _ _ _ h => h.elim
  tab := fun H a g z => by
    have t := W.tab _ a g z
    by_cases e : a = p ∨ a = q
    · obtain ⟨ps, h, _⟩ := t
      rw [mix_in e] at h
      rcases e with rfl | rfl
      · obtain ⟨xs, e⟩ := hp; rw [e] at h; cases h
      · obtain ⟨xs, e⟩ := hq; rw [e] at h; cases h
    · obtain ⟨ps, h, k⟩ := t
      rw [mix_out e] at h
      exact ⟨ps, h, k⟩
  tabs := fun H H' a g z h t => by
    have t0 := W.tab _ a g z
    have e : ¬ (a = p ∨ a = q) := fun e => by
      obtain ⟨ps, h, _⟩ := t0
      rw [mix_in e] at h
      rcases e with rfl | rfl
      · obtain ⟨xs, e⟩ := hp; rw [e] at h; cases h
      · obtain ⟨xs, e⟩ := hq; rw [e] at h; cases h
    refine W.tabs _ _ a g z (fun b hb => ?_) ?_
    · by_cases e' : b = p ∨ b = q
      · rw [mix_in e', mix_in e']
      · rw [mix_out e', mix_out e']; exact h b hb
    · obtain ⟨ps, h, k⟩ := t
      exact ⟨ps, by rw [mix_out e]; exact h, k⟩
variable {W : Wd K Tb} {Oc O : Addr → Prop} {H0 H H1 : Hp} {σ : St} {env e1 : DEnv} {i : Nat}
theorem FR.read (F : FR W Oc H0 O H σ env) {p q : Addr} {ns : List Int} {k v c s : Int} (e : env[i]? = some (some (.val .pool))) (es : σ[i]? = some (some (.ref p))) (hp : H p = some (.lst [.ref q, .int k, .int v, .int c, .int s])) (hq : H q = some (.lst (ns.map V.int))) :
    FR (WdR W H p q ⟨_, hp⟩ ⟨_, hq⟩) (WdR W H p q ⟨_, hp⟩ ⟨_, hq⟩).Z H (WdR W H p q ⟨_, hp⟩ ⟨_, hq⟩).Z H σ ((intsOnly env).set i (some (.val (poolD ns k v c s)))) where
  g := by
    refine W.loc H _ (fun a _ => ?_) F.g
    by_cases e : a = p ∨ a = q
    · rw [mix_in e]
    · rw [mix_out e]
  kept := fun _ _ h _ => h
  zc := fun _ h => h
  dc := fun a h => by
    rcases h with h | h
    · exact W.dom H a F.g h.1
    · exact W.dom H a F.g (W.tz a h)
  oc := fun _ h => h
  od := fun _ h => .inl h
  len := by rw [List.length_set]; unfold intsOnly; rw [List.length_map]; exact F.len
  slot := fun j x h => by
    have nt : ∀ {a}, (a = p ∨ a = q) → ¬ Tb a := fun {a} z t => by
      obtain ⟨ps, h, _⟩ := W.tab H a F.g t
      rcases z with rfl | rfl
      · rw [hp] at h; cases h
      · rw [hq] at h; cases h
    have nz : ∀ {a}, (a = p ∨ a = q) → ¬ (WdR W H p q ⟨_, hp⟩ ⟨_, hq⟩).Z a := fun {a} z t => by
      rcases t with t | t
      · exact t.2 z
      · exact nt z t
    by_cases hj : i = j
    · subst hj
      have hi : i < ((intsOnly env)).length := by unfold intsOnly; rw [List.length_map]; exact (List.getElem?_eq_some_iff.mp e).1
      rw [List.getElem?_set_self hi] at h
      cases h
      refine ⟨_, es, p, _, rfl, hp, nz (.inl rfl), ?_⟩
      exact ⟨_, _, rfl, ⟨q, _, rfl, hq, nz (.inr rfl), reps_ints ns⟩, _, _, rfl, rfl, _, _, rfl, rfl, _, _, rfl, rfl, _, _, rfl, rfl, rfl⟩
    · rw [List.getElem?_set_ne hj] at h
      unfold intsOnly at h
      rw [List.getElem?_map] at h
      cases h' : env[j]? with
      | none => rw [h'] at h; cases h
      | some y =>
        rw [h'] at h
        simp only [Option.map_some] at h
        split at h
        · rename_i n
          cases h
          obtain ⟨w, e2, r⟩ := F.slot j _ h'
          exact ⟨w, e2, r⟩
        · cases h
  dist := fun j k s t a _ h _ m => by
    by_cases hj : i = j
    · subst hj
      by_cases hi : i < ((intsOnly env)).length
      · rw [List.getElem?_set_self hi] at h; cases h; cases m
      · rw [List.getElem?_eq_none (by rw [List.length_set]; omega)] at h; cases h
    · rw [List.getElem?_set_ne hj] at h
      unfold intsOnly at h
      rw [List.getElem?_map] at h
      cases h' : env[j]? with
      | none => rw [h'] at h; cases h
      | some y =>
        rw [h'] at h
        simp only [Option.map_some] at h
        split at h
        · cases h; cases m
        · cases h
/-- after the reading -/
theorem FR.readK (F : FR W Oc H0 O H σ env) {p q : Addr} {ns : List Int} {k v c s : Int} (hp : H p = some (.lst [.ref q, .int k, .int v, .int c, .int s])) (hq : H q = some (.lst (ns.map V.int)))
    {O1 : Addr → Prop} (F1 : FR (WdR W H p q ⟨_, hp⟩ ⟨_, hq⟩) (WdR W H p q ⟨_, hp⟩ ⟨_, hq⟩).Z H O1 H1 σ e1) : Keep W H H1 := by
  have nt : ∀ {a}, (a = p ∨ a = q) → ¬ Tb a := fun {a} z t => by
    obtain ⟨ps, h, _⟩ := W.tab H a F.g t
    rcases z with rfl | rfl
    · rw [hp] at h; cases h
    · rw [hq] at h; cases h
  have nz : ∀ {a}, (a = p ∨ a = q) → ¬ (WdR W H p q ⟨_, hp⟩ ⟨_, hq⟩).Z a := fun {a} z t => by
    rcases t with t | t
    · exact t.2 z
    · exact nt z t
  have hpq : ∀ a, (a = p ∨ a = q) → H1 a = H a := fun a z => by
    have : ∃ o, H a = some o := by
      rcases z with rfl | rfl
      · exact ⟨_, hp⟩
      · exact ⟨_, hq⟩
    obtain ⟨o, e⟩ := this
    rw [e, F1.kept a o e (nz z)]
  refine ⟨W.loc (mix H p q H1) H1 (fun a _ => ?_) F1.g, fun a o h n => ?_⟩
  · by_cases e : a = p ∨ a = q
    · rw [mix_in e, hpq a e]
    · rw [mix_out e]
  · by_cases e : a = p ∨ a = q
    · rw [hpq a e]; exact h
    · refine F1.kept a o h fun z => ?_
      rcases z with z | z
      · exact n z.1
      · exact n (W.tz a z)
/-- a pool's cell takes an int -/
theorem FR.poolPut (F : FR W Oc H0 O H σ env) {p : Addr} {ns : List Int} {k v c s k' v' c' s' : Int} (pl : W.Pl p) (hp : H p = some (.lst [.ref (W.pq p), .int k, .int v, .int c, .int s])) (hq : H (W.pq p) = some (.lst (ns.map V.int))) (hpq : W.pq p ≠ p) (h0 : 0 ≤ k') :
    FR W Oc H0 O (upd H p (.lst [.ref (W.pq p), .int k', .int v', .int c', .int s'])) σ env := by
  refine F.keep ⟨W.pools H _ p F.g pl (fun b hb => upd_ne hb) ⟨ns, k', v', c', s', upd_same, by rw [upd_ne hpq]; exact hq, h0, hpq⟩, fun a o h n => ?_⟩
  rw [upd_ne fun z => n (by rw [z]; exact W.pz p pl)]; exact h
end

section
variable {X : Cx} {Tb : Addr → Prop} {e : Expr} {m : ME} {pos p : Pos} {i j : Nat} {x y : Str}
theorem ev_rd (h : EV X Tb e m) : EV X Tb e (eRd i m) := by
  obtain ⟨t, pe, h⟩ := h.ex
  refine ⟨t, pe, fun W Oc H0 O H σ env Q P F hm hq => ?_⟩
  unfold eRd at hm
  split at hm
  · rename_i e0
    obtain ⟨w, es, a, rfl, pl⟩ := F.slot i _ e0
    obtain ⟨ns, k, v, c, s, hp, hqq, h0, hpq⟩ := W.pool H a F.g pl
    refine h _ _ H _ H σ _ _ _ (F.read e0 es hp hqq) (hm ns k v c s h0) fun H1 w d e1 F1 s1 r1 q1 => ?_
    have kp := F.readK hp hqq F1
    split at q1
    · rename_i n; exact hq H1 w (.int n) env (F.keep kp) (kp.stab F.zo) (show w = .int n from r1) q1
    · rename_i n; exact hq H1 w (.bl n) env (F.keep kp) (kp.stab F.zo) (show w = .bl n from r1) q1
    · exact False.elim q1
  · exact False.elim hm
theorem tv_rd {mt : MT} (h : TV X Tb e mt) : TV X Tb e (tRd i mt) := by
  obtain ⟨t, pe, h⟩ := h.ex
  refine ⟨t, pe, fun W Oc H0 O H σ env Q P F hm hq => ?_⟩
  unfold tRd at hm
  split at hm
  · rename_i e0
    obtain ⟨w, es, a, rfl, pl⟩ := F.slot i _ e0
    obtain ⟨ns, k, v, c, s, hp, hqq, h0, hpq⟩ := W.pool H a F.g pl
    refine h _ _ H _ H σ _ _ _ (F.read e0 es hp hqq) (hm ns k v c s h0) fun H1 b e1 F1 s1 q1 => ?_
    have kp := F.readK hp hqq F1
    exact hq H1 b env (F.keep kp) (kp.stab F.zo) q1
  · exact False.elim hm
theorem sv_rdIf {c : Expr} {rest : List Stmt} {mc : MT} {me : ME} {ms : MS} {pos' : Pos} {pos2 : Pos} (hN : X.N.Nodup) (hi : X.N[j]? = some x) (hx : Loc X.env.scope x) (hc : TV X Tb c mc) (he : EV X Tb e me) (hr : BV X Tb rest ms)
    (hs : swapsWith e (some (.Name x pos')) pos.line X.env = pure false := by rfl)
    (hf : X.fn x = true ∨ X.env.scope.names.lookup x = some .local := by first | exact .inl rfl | exact .inr rfl | assumption) : SV X Tb (.If c (.Assign [.Name x pos'] e pos :: rest) [] pos2) (sRdIf i j mc me ms) := by
  obtain ⟨tc, pc, hc⟩ := hc.ex
  obtain ⟨t, p, he⟩ := he.ex
  obtain ⟨tr, pr, hr⟩ := hr.ex
  refine ⟨_, ps_if pc (pss_cons (ps_set hN hi hx p hs hf) pr) pss_nil, fun W Oc H0 O H σ env D E F hm k => ?_⟩
  unfold sRdIf at hm
  split at hm
  · rename_i e0
    obtain ⟨w, es, a, rfl, pl⟩ := F.slot i _ e0
    obtain ⟨ns, kk, v, c, s, hp, hqq, h0, hpq⟩ := W.pool H a F.g pl
    refine hc _ _ H _ H σ _ _ _ (F.read e0 es hp hqq) (hm ns kk v c s h0) fun H1 b e1 F1 s1 q1 => ?_
    have kp := F.readK hp hqq F1
    cases b with
    | false => exact iteF (k.nx O H1 σ env (F.keep kp) (Mv.of (kp.stab F.zo)) q1)
    | true =>
      refine iteT (he _ _ H _ H1 σ e1 _ _ F1 q1 fun H2 w d e2 F2 s2 r2 q2 => ?_)
      have kp2 := F.readK hp hqq F2
      split at q2
      · rename_i n
        exact hr W Oc H0 O H2 _ _ D E ((F.keep kp2).ilt (d := .int n) (show w = .int n from r2)) q2 (k.mv (Mv.of (kp2.stab F.zo)))
      · exact False.elim q2
  · exact False.elim hm
theorem sv_pool {kc : Expr} {tpos : Pos} {kn : Nat} (hx : PE X (.Name x p) (tVar i)) (hk : PE X kc (tC (.int (kn : Int)))) (h : EV X Tb e m) (ha : ∀ v, assign (.Subscript (.Name x p) kc tpos) X.env v = (do
      let ov ← holding [v] (eval (.Name x p) X.env)
      let iv ← holding [v, ov] (eval kc X.env)
      standAt tpos
      holding [v, ov, iv] (setItem ov iv v)
      release [v, ov, iv] []) := by intro _; rfl)
    (hs : swapsWithSole [.Subscript (.Name x p) kc tpos] e pos.line X.env = pure false := by rfl) (hw : swappedStores [.Subscript (.Name x p) kc tpos] e X.env = pure none := by rfl)
    (h1 : (assignEach [.Subscript (.Name x p) kc tpos] X.env).map (·.2) = [assign (.Subscript (.Name x p) kc tpos) X.env] := by rfl) : SV X Tb (.Assign [.Subscript (.Name x p) kc tpos] e pos) (sPool i kn m) := by
  obtain ⟨t, pe, h⟩ := h.ex
  refine ⟨_, ps_asg pe (pg_sub hx hk set_list ha) hs hw h1, fun W Oc H0 O H σ env D E F hm kk => ?_⟩
  refine h W Oc H0 O H σ env _ _ F hm fun H1 w d e1 F1 s1 r1 q1 => ?_
  split at q1
  · rename_i n e0
    obtain ⟨w', es, a, rfl, pl⟩ := F1.slot i _ e0
    obtain ⟨ns, k, v, c, s, hp, hqq, h0, hpq⟩ := W.pool H1 a F1.g pl
    obtain ⟨⟨k1, k4, kn0⟩, q2⟩ := q1
    have r1' : w = .int n := r1
    subst r1'
    refine ⟨_, es, a, _, (kn : Int), kn, rfl, rfl, hp, by unfold L2.ixN; simp; omega, ?_⟩
    have hz : ∀ a, W.Z a → O a := F1.zo
    have st : ∀ o, Stab O H1 (upd H1 a o) := fun o b u hb hn => by rw [upd_ne fun (z : b = a) => hn (by rw [z]; exact hz a (W.pz a pl))]; exact hb
    have kn' : kn = 1 ∨ kn = 2 ∨ kn = 3 ∨ kn = 4 := by omega
    rcases kn' with rfl | rfl | rfl | rfl
    · exact kk.nx O _ _ _ (F1.poolPut pl hp hqq hpq (kn0 rfl)) (Mv.of (s1.trans (st _))) q2
    · exact kk.nx O _ _ _ (F1.poolPut pl hp hqq hpq h0) (Mv.of (s1.trans (st _))) q2
    · exact kk.nx O _ _ _ (F1.poolPut pl hp hqq hpq h0) (Mv.of (s1.trans (st _))) q2
    · exact kk.nx O _ _ _ (F1.poolPut pl hp hqq hpq h0) (Mv.of (s1.trans (st _))) q2
  · exact False.elim q1
end
end DL

set_option Elab.async false
set_option linter.all false
set_option autoImplicit false
set_option maxRecDepth 100000
/-! DL7: in, zip, min, max. -/
namespace DL
open PySem PySem.Spec PyProof.Rows L2
variable {X : Cx} {Tb : Addr → Prop}
/-! ### in -/
def rInTD (K : PySem.W.Frag) (neg : Bool) : R2 := fun x y H Q => ∃ d ds, Dp K H x d ∧ Dp K H y (.tuple ds) ∧ SeqAt.shaped d = true ∧ SeqAt.shaped (.tuple ds) = true ∧ Q (.bl (if neg then !ds.any fun z => PyData.eqv z d else ds.any fun z => PyData.eqv z d)) H
theorem op_inTD (hu : X.A.units + 65 < cLine) : OpR X (compareOp .In) (rInTD X.K false) := by
  intro pins s σ H x y v u Q I rx ry h
  obtain ⟨d, ds, hd, he, sd, se, q⟩ := h
  obtain ⟨as, r1⟩ := Dp.reads I d x v hd rx
  obtain ⟨bs, r2⟩ := Dp.reads I (.tuple ds) y u he ry
  exact SeqAt.in_tuple_reads r2 r1 (SeqAt.canLay_of_shaped se) (SeqAt.canLay_of_shaped sd) (room_in_shaped sd hu) ⟨.bl _, H, I, rfl, q⟩
theorem op_notInTD (hu : X.A.units + 65 < cLine) : OpR X (compareOp .NotIn) (rInTD X.K true) := by
  intro pins s σ H x y v u Q I rx ry h
  obtain ⟨d, ds, hd, he, sd, se, q⟩ := h
  obtain ⟨as, r1⟩ := Dp.reads I d x v hd rx
  obtain ⟨bs, r2⟩ := Dp.reads I (.tuple ds) y u he ry
  exact SeqAt.notIn_tuple_reads r2 r1 (SeqAt.canLay_of_shaped se) (SeqAt.canLay_of_shaped sd) (room_in_shaped sd hu) ⟨.bl _, H, I, rfl, q⟩
theorem any_py {n : Nat} {x : D} (hx : plain n x = true) : ∀ {ys : List D}, plains n ys = true → dIn x ys = (ys.map toPy).any fun z => PyData.eqv z (toPy x)
  | [], _ => rfl
  | y :: ys, h => by
    obtain ⟨h1, h2⟩ := plains_cons.mp h
    have e : dIn x (y :: ys) = (peq y x || dIn x ys) := rfl
    rw [e, List.map_cons, List.any_cons, peq_py _ _ _ h1 hx, any_py hx h2]
theorem plains_of_tup {n : Nat} {ys : List D} (h : plain n (.tup ys) = true) : plains n ys = true := by
  cases n with
  | zero => simp [plain] at h
  | succ n => simp only [plain] at h; exact plains_mono n (n + 1) (Nat.le_succ n) ys h
theorem plains_of_lst {n : Nat} {ys : List D} (h : plain n (.lst ys) = true) : plains n ys = true := by
  cases n with
  | zero => simp [plain] at h
  | succ n => simp only [plain] at h; exact plains_mono n (n + 1) (Nat.le_succ n) ys h
theorem u65 {k : Nat} {A : Around} (r : Room k A) : A.units + 65 < cLine := by have := r.un; omega
theorem ov_in {k : Nat} (hr : Room k X.A) : OV X (compareOp .In) oIn := by
  refine ⟨_, (op_inTD (u65 hr)).or (op_inD (u65 hr)), fun Pl O H x y v u Q P hO rx ry h hq => ?_⟩
  cases y <;> first | exact False.elim h | skip
  · obtain ⟨h1, h2, h⟩ := h
    exact .inl ⟨toPy x, _, dp_of _ _ _ h1 rx, (by have := dp_of _ _ _ h2 ry; simpa [toPy] using this), shaped_of h1, (by have := shaped_of h2; simpa [toPy] using this), hq H _ (.bl _) (Same.refl _) (by rw [if_neg Bool.false_ne_true, ← any_py h1 (plains_of_tup h2)]; rfl) h⟩
  · obtain ⟨h1, h2, h⟩ := h
    exact .inr ⟨toPy x, _, dp_of _ _ _ h1 rx, (by have := dp_of _ _ _ h2 ry; simpa [toPy] using this), shaped_of h1, (by have := shaped_of h2; simpa [toPy] using this), hq H _ (.bl _) (Same.refl _) (by rw [← any_py h1 (plains_of_lst h2)]; rfl) h⟩
theorem ov_notIn {k : Nat} (hr : Room k X.A) : OV X (compareOp .NotIn) oNotIn := by
  refine ⟨_, (op_notInTD (u65 hr)).or (op_notInD (u65 hr)), fun Pl O H x y v u Q P hO rx ry h hq => ?_⟩
  cases y <;> first | exact False.elim h | skip
  · obtain ⟨h1, h2, h⟩ := h
    exact .inl ⟨toPy x, _, dp_of _ _ _ h1 rx, (by have := dp_of _ _ _ h2 ry; simpa [toPy] using this), shaped_of h1, (by have := shaped_of h2; simpa [toPy] using this), hq H _ (.bl _) (Same.refl _) (by rw [if_pos rfl, ← any_py h1 (plains_of_tup h2)]; rfl) h⟩
  · obtain ⟨h1, h2, h⟩ := h
    exact .inr ⟨toPy x, _, dp_of _ _ _ h1 rx, (by have := dp_of _ _ _ h2 ry; simpa [toPy] using this), shaped_of h1, (by have := shaped_of h2; simpa [toPy] using this), hq H _ (.bl _) (Same.refl _) (by rw [← any_py h1 (plains_of_lst h2)]; rfl) h⟩
/-! ### min, max of two -/
theorem cv_min2 (hc : X.calm = true) : CV X (.builtin "min") fMin2 := by
  refine ⟨_, call_min2 hc, fun Pl O H ds vs Q P hO r h hq => ?_⟩
  unfold fMin2 at h
  split at h
  · rename_i i j
    obtain ⟨v, us, rfl, r1, w, us2, rfl, r2, rfl⟩ := r
    refine ⟨i, j, by rw [show v = _ from r1, show w = _ from r2], ?_⟩
    have e : (if j < i then j else i) = min i j := by omega
    rw [e]
    exact hq H _ (.int _) (Same.refl _) rfl h
  · exact False.elim h
theorem cv_max2 (hc : X.calm = true) : CV X (.builtin "max") fMax2 := by
  refine ⟨_, call_max2 hc, fun Pl O H ds vs Q P hO r h hq => ?_⟩
  unfold fMax2 at h
  split at h
  · rename_i i j
    obtain ⟨v, us, rfl, r1, w, us2, rfl, r2, rfl⟩ := r
    refine ⟨i, j, by rw [show v = _ from r1, show w = _ from r2], ?_⟩
    have e : (if j > i then j else i) = max i j := by omega
    rw [e]
    exact hq H _ (.int _) (Same.refl _) rfl h
  · exact False.elim h
/-! ### zip -/
theorem zipT_get : ∀ (xs ys : List D) (i : Nat) (d : D), (zipT xs ys)[i]? = some d → ∃ x y, xs[i]? = some x ∧ ys[i]? = some y ∧ d = .tup [x, y]
  | x :: xs, y :: ys, 0, d, h => by
    simp [zipT] at h; subst h
    exact ⟨x, y, rfl, rfl, rfl⟩
  | x :: xs, y :: ys, i + 1, d, h => by
    obtain ⟨a, b, h1, h2, h3⟩ := zipT_get xs ys i d (by simpa [zipT] using h)
    exact ⟨a, b, by simpa using h1, by simpa using h2, h3⟩
  | [], _, i, d, h => by simp [zipT] at h
  | _ :: _, [], i, d, h => by simp [zipT] at h
theorem zipT_len : ∀ (xs ys : List D), (zipT xs ys).length = min xs.length ys.length
  | x :: xs, y :: ys => by simp [zipT, zipT_len xs ys]
  | [], _ => by simp [zipT]
  | _ :: _, [] => by simp [zipT]
section
variable {a b : Expr} {m m2 : ME} {pos p tpos : Pos} {elts : List Expr} {kk : Nat}
theorem iv_zip (hg : Gl X "zip") (hm : X.mg "zip" = none) (h : EV X Tb a m) (h2 : EV X Tb b m2)
    (hs : starEach [a, b] X.env = (false, eval a X.env) :: starEach [b] X.env := by rfl) (hs2 : starEach [b] X.env = (false, eval b X.env) :: starEach [] X.env := by rfl) (hpl : (backTo pos (starEach [b] X.env)).any (·.1) = false := by rfl) :
    IV X Tb (.Tuple elts kk tpos) (.Call (.Name "zip" p) [a, b] [] pos) (iZip m m2) := by
  obtain ⟨t, pe, h⟩ := h.ex
  obtain ⟨t2, pe2, h2⟩ := h2.ex
  refine ⟨_, RZ.pi_zipA hg hm (pa_cons pe (pa_cons pe2 pa_nil hs2) hs) hs hpl, fun W Oc H0 O H σ env R P F hm hq => ?_⟩
  refine h W Oc H0 O H σ env _ _ F hm fun H1 v d e1 F1 s1 r1 q1 => ?_
  refine h2 W Oc H0 O H1 σ e1 _ _ F1 q1 fun H2 v2 d2 e2 F2 s2 r2 q2 => ?_
  have r1' : Rp W O H2 d v := Rep.stab s2 r1
  cases d <;> cases d2 <;> first | exact False.elim q2 | skip
  · rename_i xs ys
    obtain ⟨a1, vs, rfl, qa, na, ra⟩ := r1'
    obtain ⟨b1, us, rfl, qb, nb, rb⟩ := r2
    refine ⟨a1, b1, vs, us, rfl, .inr ⟨sqRd qa, sqRd qb, hq H2 _ _ e2 F2 (s1.trans s2) (fun O3 H3 mv hO i => ⟨fun d hd => ?_, fun hle => ?_⟩) q2⟩⟩
    · obtain ⟨qa3, na3⟩ := mv.rd qa na
      obtain ⟨qb3, nb3⟩ := mv.rd qb nb
      obtain ⟨dx, dy, h1, h2, rfl⟩ := zipT_get xs ys i d hd
      obtain ⟨vx, e1, rx⟩ := ra.get h1
      obtain ⟨vy, e2, ry⟩ := rb.get h2
      refine ⟨⟨vs, us, vx, vy, sqRd qa3, sqRd qb3, e1, e2⟩, fun x H4 ⟨T, x1, y1, ex, hT, eH, hx, hy⟩ => ?_⟩
      subst ex eH
      have z1 := hx vs (sqRd qa3)
      have z2 := hy us (sqRd qb3)
      rw [e1] at z1; rw [e2] at z2
      cases z1; cases z2
      exact ⟨same_upd hT, rep_new_tup hO ⟨_, _, rfl, Rep.mv mv rx, _, _, rfl, Rep.mv mv ry, rfl⟩ hT⟩
    · refine ⟨vs, us, sqRd (mv.rd qa na).1, sqRd (mv.rd qb nb).1, ?_⟩
      rw [ra.length, rb.length]
      rw [zipT_len] at hle; omega
  · rename_i xs ys
    obtain ⟨a1, vs, rfl, qa, na, ra⟩ := r1'
    obtain ⟨b1, us, rfl, qb, nb, rb⟩ := r2
    refine ⟨a1, b1, vs, us, rfl, .inl ⟨SqL.of qa, SqL.of qb, hq H2 _ _ e2 F2 (s1.trans s2) (fun O3 H3 mv hO i => ⟨fun d hd => ?_, fun hle => ?_⟩) q2⟩⟩
    · obtain ⟨qa3, na3⟩ := mv a1 _ qa na
      obtain ⟨qb3, nb3⟩ := mv b1 _ qb nb
      obtain ⟨dx, dy, h1, h2, rfl⟩ := zipT_get xs ys i d hd
      obtain ⟨vx, e1, rx⟩ := ra.get h1
      obtain ⟨vy, e2, ry⟩ := rb.get h2
      refine ⟨⟨vs, us, vx, vy, SqL.of qa3, SqL.of qb3, e1, e2⟩, fun x H4 ⟨T, x1, y1, ex, hT, eH, hx, hy⟩ => ?_⟩
      subst ex eH
      have z1 := hx vs (SqL.of qa3)
      have z2 := hy us (SqL.of qb3)
      rw [e1] at z1; rw [e2] at z2
      cases z1; cases z2
      exact ⟨same_upd hT, rep_new_tup hO ⟨_, _, rfl, Rep.mv mv rx, _, _, rfl, Rep.mv mv ry, rfl⟩ hT⟩
    · refine ⟨vs, us, SqL.of (mv a1 _ qa na).1, SqL.of (mv b1 _ qb nb).1, ?_⟩
      rw [ra.length, rb.length]
      rw [zipT_len] at hle; omega
end
end DL

set_option Elab.async false
set_option linter.all false
set_option autoImplicit false
set_option maxRecDepth 100000
/-! DL8: lists that a def changes, lent as values. -/
namespace DL
open PySem PySem.Spec PyProof.Rows L2
section
variable {K : PySem.W.Frag} {Tb : Addr → Prop} {W : Wd K Tb} {Oc O : Addr → Prop} {H0 H H1 : Hp} {σ : St} {env : DEnv}
theorem lend_get {env : DEnv} {i : Nat} {s : Sl} (h : (lend env)[i]? = some (some s)) : (∃ d, s = .val d ∧ env[i]? = some (some (.val d))) ∨ (∃ ds, s = .val (.lst ds) ∧ env[i]? = some (some (.own ds))) ∨ ∃ kvs, s = .val (.dct (kvs.map (·.1)) (kvs.map (·.2))) ∧ env[i]? = some (some (.dic kvs)) := by
  unfold lend at h
  rw [List.getElem?_map] at h
  cases e : env[i]? with
  | none => rw [e] at h; cases h
  | some o =>
    rw [e] at h
    cases o with
    | none => cases h
    | some s' =>
      cases s' with
      | own ds =>
        have : some (Sl.val (.lst ds)) = some s := by simpa using h
        exact .inr (.inl ⟨ds, (Option.some.inj this).symm, rfl⟩)
      | gdi kvs => cases h
      | dic kvs =>
        have : some (Sl.val (.dct (kvs.map (·.1)) (kvs.map (·.2)))) = some s := by simpa using h
        exact .inr (.inr ⟨kvs, (Option.some.inj this).symm, rfl⟩)
      | val d =>
        have : some (Sl.val d) = some s := by simpa using h
        exact .inl ⟨d, (Option.some.inj this).symm, rfl⟩
theorem FR.lend (F : FR W Oc H0 O H σ env) : FR W Oc H Oc H σ (DL.lend env) where
  g := F.g
  kept := fun _ _ h _ => h
  zc := F.zc
  dc := fun a h => F.dom a (F.oc a h)
  oc := fun _ h => h
  od := fun _ h => .inl h
  len := by unfold DL.lend; rw [List.length_map]; exact F.len
  slot := fun i s h => by
    rcases lend_get h with ⟨d, rfl, h1⟩ | ⟨ds, rfl, h1⟩ | ⟨kvs, rfl, h1⟩
    · obtain ⟨v, e1, r⟩ := F.slot i _ h1
      exact ⟨v, e1, Rep.weak F.oc r⟩
    · obtain ⟨a, vs, e1, h2, h3, h4, r⟩ := F.slot i _ h1
      refine ⟨_, e1, a, vs, rfl, h4, fun z => ?_, Reps.weak F.oc r⟩
      obtain ⟨o, e⟩ := F.dc a z
      rw [h3] at e; cases e
    · obtain ⟨a, e1, h2, h3, r⟩ := F.slot i _ h1
      refine ⟨_, e1, a, rfl, fun z => ?_, r.weak F.oc⟩
      obtain ⟨o, e⟩ := F.dc a z
      rw [h3] at e; cases e
  dist := fun i j s t a _ h _ m => by
    rcases lend_get h with ⟨d, e, _⟩ | ⟨ds, e, _⟩ | ⟨kvs, e, _⟩ <;> (subst e; cases m)
mutual
theorem rep_noLst {Pl O O' : Addr → Prop} {H : Hp} (hO : ∀ a, O' a → O a ∨ ∃ o, H a = some o ∧ MutO o) : ∀ {d : D} {v : V}, noLst d = true → Rep K Pl O H d v → Rep K Pl O' H d v
  | .non, _, _, h => h
  | .bl _, _, _, h => h
  | .int _, _, _, h => h
  | .str _, _, _, h => h
  | .tup ds, _, hn, h => by
    obtain ⟨a, vs, e, q, n, r⟩ := h
    refine ⟨a, vs, e, q, fun z => ?_, reps_noLst hO (by simpa [noLst] using hn) r⟩
    rcases hO a z with z | ⟨us, z, m⟩
    · exact n z
    · rcases q with q | ⟨o, q⟩ <;> (rw [q] at z; cases z; rcases m with ⟨_, m⟩ | ⟨_, m⟩ | ⟨_, m⟩ | ⟨_, _, m⟩ <;> cases m)
  | .rnk ns, _, hn, h => by
    obtain ⟨a, o, e, q, c, d, n⟩ := h
    refine ⟨a, o, e, q, c, d, fun z => ?_⟩
    rcases hO a z with z | ⟨us, z, m⟩
    · exact n z
    · rw [q] at z; cases z; rcases m with ⟨_, m⟩ | ⟨_, m⟩ | ⟨_, m⟩ | ⟨_, _, m⟩ <;> cases m
  | .lst ds, _, hn, _ => by simp [noLst] at hn
  | .dct _ _, _, hn, _ => by simp [noLst] at hn
  | .gd ks vs, _, hn, h => by
    obtain ⟨a, o, m, e, q, n, kd, r1, r2⟩ := h
    have hn' : noLsts ks = true ∧ noLsts vs = true := by simpa [noLst] using hn
    refine ⟨a, o, m, e, q, fun z => ?_, kd, reps_noLst hO hn'.1 r1, reps_noLst hO hn'.2 r2⟩
    rcases hO a z with z | ⟨us, z, m⟩
    · exact n z
    · rw [q] at z; cases z; rcases m with ⟨_, m⟩ | ⟨_, m⟩ | ⟨_, m⟩ | ⟨_, _, m⟩ <;> cases m
  | .pool, _, _, h => h
  | .frz _, _, hn, _ => by simp [noLst] at hn
theorem reps_noLst {Pl O O' : Addr → Prop} {H : Hp} (hO : ∀ a, O' a → O a ∨ ∃ o, H a = some o ∧ MutO o) : ∀ {ds : List D} {vs : List V}, noLsts ds = true → Reps K Pl O H ds vs → Reps K Pl O' H ds vs
  | [], _, _, h => h
  | d :: ds, _, hn, h => by
    obtain ⟨v, r, e, h1, h2⟩ := h
    have hn' : noLst d = true ∧ noLsts ds = true := by simpa [noLsts] using hn
    exact ⟨v, r, e, rep_noLst hO hn'.1 h1, reps_noLst hO hn'.2 h2⟩
end
/-- what was avoided and is no longer is a list -/
theorem FR.ownL (F : FR W Oc H0 O H σ env) (kp : Keep W H H1) : ∀ a, O a → Oc a ∨ ∃ o, H1 a = some o ∧ MutO o := fun a h => by
  rcases F.od a h with h | ⟨h0, vs, e, m⟩
  · exact .inl h
  · exact .inr ⟨vs, kp.2 a _ e (F.ownZ h0), m⟩
end
section
variable {X : Cx} {Tb : Addr → Prop} {e : Expr} {m : ME}
theorem ev_lend (h : EV X Tb e m) : EV X Tb e (eLend m) := by
  obtain ⟨t, pe, h⟩ := h.ex
  refine ⟨t, pe, fun W Oc H0 O H σ env Q P F hm hq => ?_⟩
  refine h W Oc H Oc H σ _ _ _ F.lend hm fun H1 v d e1 F1 s1 r1 ⟨hn, q1⟩ => ?_
  have kp : Keep W H H1 := F1.rt
  exact hq H1 v d env (F.keep kp) (kp.stab F.zo) (rep_noLst (F.ownL kp) hn r1) q1
theorem tv_lend {mt : MT} (h : TV X Tb e mt) : TV X Tb e (tLend mt) := by
  obtain ⟨t, pe, h⟩ := h.ex
  refine ⟨t, pe, fun W Oc H0 O H σ env Q P F hm hq => ?_⟩
  refine h W Oc H Oc H σ _ _ _ F.lend hm fun H1 k e1 F1 s1 q1 => ?_
  have kp : Keep W H H1 := F1.rt
  exact hq H1 k env (F.keep kp) (kp.stab F.zo) q1
end
end DL

set_option Elab.async false
set_option linter.all false
set_option autoImplicit false
set_option maxRecDepth 100000
/-! DL9: min, max over lists and tuples of ints, of rows of ints. -/
namespace DL
open PySem PySem.Spec PyProof.Rows L2
open PySem.W (keyToksAll dataLt_self dataLt_tuple dataLt_int dataLt_cons lex_atom minD maxD dataLt AlikeAll alike alikeAll min_list_data min_tuple_data)
theorem dataLt_ints : ∀ ns ms : List Int, PyProof.Rows.lexLt itemOrd (keyToksAll (ns.map PyData.int)) (keyToksAll (ms.map PyData.int)) = DL.lexLt ns ms
  | [], [] => by
    have := dataLt_self (.tuple [])
    rw [dataLt_tuple] at this
    exact this
  | [], m :: ms => by
    show PyProof.Rows.lexLt itemOrd [.inl 0] (.inl 1 :: _) = true
    rw [lex_atom (by decide)]
    rfl
  | n :: ns, [] => by
    show PyProof.Rows.lexLt itemOrd (.inl 1 :: _) [.inl 0] = false
    rw [lex_atom (by decide)]
    rfl
  | n :: ns, m :: ms => by
    rw [List.map_cons, List.map_cons, dataLt_cons rfl, dataLt_ints ns ms, dataLt_int]
    show (if (n == m) = true then DL.lexLt ns ms else decide (n < m)) = if n = m then DL.lexLt ns ms else decide (n < m)
    by_cases h : n = m <;> simp [h]
def rowP (r : List Int) : PyData := .tuple (r.map PyData.int)
theorem minD_rows (x : List Int) (xs : List (List Int)) : minD (rowP x) (xs.map rowP) = rowP (minR x xs) := by
  unfold minD minR
  induction xs generalizing x with
  | nil => rfl
  | cons y xs ih =>
    rw [List.map_cons, List.foldl_cons, List.foldl_cons, ← ih]
    have e : dataLt (rowP y) (rowP x) = DL.lexLt y x := by unfold rowP; rw [dataLt_tuple, dataLt_ints]
    rw [e]
    by_cases h : DL.lexLt y x = true <;> simp [h]
theorem alikeAll_rows (xs : List (List Int)) : AlikeAll (xs.map rowP) := by
  refine ⟨fun x hx y hy => ?_, fun x hx => ?_⟩
  · obtain ⟨a, _, rfl⟩ := List.mem_map.mp hx
    obtain ⟨b, _, rfl⟩ := List.mem_map.mp hy
    have key : ∀ a b : List Int, alikeAll (a.map PyData.int) (b.map PyData.int) = true := by
      intro a
      induction a with
      | nil => intro b; cases b <;> rfl
      | cons x a ih => intro b; cases b with
        | nil => rfl
        | cons y b => show (alike (.int x) (.int y) && alikeAll _ _) = true; rw [ih b]; rfl
    exact key a b
  · obtain ⟨a, _, rfl⟩ := List.mem_map.mp hx
    exact fun z => by cases z
theorem alikeAll_ints (xs : List Int) : AlikeAll (xs.map PyData.int) := by
  refine ⟨fun x hx y hy => ?_, fun x hx => ?_⟩
  · obtain ⟨a, _, rfl⟩ := List.mem_map.mp hx
    obtain ⟨b, _, rfl⟩ := List.mem_map.mp hy
    rfl
  · obtain ⟨a, _, rfl⟩ := List.mem_map.mp hx
    exact fun z => by cases z
section
variable {X : Cx} {Tb : Addr → Prop}
/-- min of a list or tuple of alike data: one of its items, that reads as the least -/
def rMin1 (K : PySem.W.Frag) (f : PyData → List PyData → PyData) : List V → Hp → VK → Prop := fun xs H Q => ∃ (a : Addr) (ys : List V) (d : PyData) (ds : List PyData), xs = [.ref a] ∧ (SqL K H a ys ∨ SqT K H a ys) ∧ DpAll K H ys (d :: ds) ∧ AlikeAll (d :: ds) ∧ PyData.depthAll (d :: ds) ≤ 64 ∧
  ∀ (i : Nat) (y : V), ys[i]? = some y → (∀ p, Dp K H y p → p = f d ds) → Q y H
theorem call_min1 {k : Nat} (hc : X.calm = true) (hr : Room k X.A) : CallR X (.builtin "min") (rMin1 X.K minD) := by
  intro pins s σ H xs us Q I r h
  obtain ⟨a, ys, d, ds, rfl, hs, hd, hal, hdp, q⟩ := h
  obtain ⟨u, rfl, rx⟩ := vals1 r
  cases rx
  rcases hs with hs | hs
  · obtain ⟨its, rv, p, hz⟩ := I.list hs
    obtain ⟨as, ra⟩ := Dp.readsAll I _ _ _ hd rv
    refine min_list_data (I.ok.hd hc) p.isList (by simpa using ra) hal (by have := hr.un; omega) fun i v h' tk bs e rd hk => ?_
    have e' : its[i]? = some v := by simpa using e
    have hi : i < ys.length := by
      have := (List.getElem?_eq_some_iff.mp e').1
      rw [rv.length]; exact this
    obtain ⟨v2, e2, ry⟩ := rv.get (List.getElem?_eq_getElem hi)
    rw [e'] at e2; cases e2
    exact ⟨ys[i], H, I.kept hk, ry, q i _ (List.getElem?_eq_getElem hi) fun p hp => by
      obtain ⟨as', r'⟩ := Dp.reads I p _ _ hp ry
      exact (Reads.unique (Reads.keeps hk r') _ _ rd).1⟩
  · obtain ⟨its, rv, p, hz⟩ := I.tuple hs
    obtain ⟨as, ra⟩ := Dp.readsAll I _ _ _ hd rv
    refine min_tuple_data (I.ok.hd hc) p (by simpa using ra) hal (by have := hr.un; omega) fun i v h' tk bs e rd hk => ?_
    have e' : its[i]? = some v := by simpa using e
    have hi : i < ys.length := by
      have := (List.getElem?_eq_some_iff.mp e').1
      rw [rv.length]; exact this
    obtain ⟨v2, e2, ry⟩ := rv.get (List.getElem?_eq_getElem hi)
    rw [e'] at e2; cases e2
    exact ⟨ys[i], H, I.kept hk, ry, q i _ (List.getElem?_eq_getElem hi) fun p hp => by
      obtain ⟨as', r'⟩ := Dp.reads I p _ _ hp ry
      exact (Reads.unique (Reads.keeps hk r') _ _ rd).1⟩
theorem depthAll_le {xs : List PyData} (h : SeqAt.shaped (.list xs) = true) : PyData.depthAll xs ≤ 64 := by
  have := SeqAt.depth_of_shaped h
  simp only [PyData.depth] at this
  omega
theorem plains_int (c : List Int) (n : Nat) : plains n (c.map D.int) = true := by
  induction c with
  | nil => rfl
  | cons x c ih => rw [List.map_cons]; simp only [plains, ih, Bool.and_true]; simp [plain]
theorem plains_row (rs : List (List Int)) (n : Nat) : plains (n + 1) (rs.map fun c => D.tup (c.map D.int)) = true := by
  induction rs with
  | nil => rfl
  | cons x c ih => rw [List.map_cons]; simp only [plains, ih, Bool.and_true]; simp only [plain]; exact plains_int x n
theorem toPy_ints (c : List Int) : (c.map D.int).map toPy = c.map PyData.int := by rw [List.map_map]; apply List.map_congr_left; intro x _; simp [toPy]
theorem toPy_rows (rs : List (List Int)) : (rs.map fun c => D.tup (c.map D.int)).map toPy = rs.map rowP := by
  rw [List.map_map]; apply List.map_congr_left; intro x _
  simp only [Function.comp, toPy, rowP]
  rw [toPy_ints]
theorem rowP_inj {a b : List Int} (h : rowP a = rowP b) : a = b := by
  unfold rowP at h
  have h := PyData.tuple.inj h
  have key : ∀ a b : List Int, a.map PyData.int = b.map PyData.int → a = b := by
    intro a
    induction a with
    | nil => intro b h; cases b with
      | nil => rfl
      | cons y b => cases h
    | cons x a ih => intro b h; cases b with
      | nil => cases h
      | cons y b =>
        rw [List.map_cons, List.map_cons] at h
        injection h with h1 h2
        rw [PyData.int.inj h1, ih b h2]
  exact key a b h
theorem min1_core {K : PySem.W.Frag} {Pl O : Addr → Prop} {H : Hp} {xs : List D} {vs : List V} {a : Addr} {Q : VK} {P : D → Prop} (hs : SqL K H a vs ∨ SqT K H a vs) (ra : Reps K Pl O H xs vs)
    (h : (∃ (n : Int) (ns : List Int), xs = (n :: ns).map D.int ∧ P (.int (ns.foldl min n))) ∨ ∃ (r : List Int) (rs : List (List Int)), xs = (r :: rs).map (fun c => .tup (c.map D.int)) ∧ P (.tup ((minR r rs).map D.int)))
    (hq : ∀ z d, Rep K Pl O H d z → P d → Q z H) : rMin1 K minD [.ref a] H Q := by
  rcases h with ⟨n, ns, rfl, hp⟩ | ⟨r, rs, rfl, hp⟩
  · have hpl : plains 60 ((n :: ns).map D.int) = true := plains_int _ _
    have dpa := dpAll_of (fun x v => dp_of 60 x v) _ _ hpl ra
    rw [toPy_ints] at dpa
    have hsh : SeqAt.shaped (.list ((n :: ns).map PyData.int)) = true := by
      have := shaped_of (x := .lst ((n :: ns).map D.int)) (by show plain (59 + 1) _ = true; simp only [plain]; exact plains_int _ _)
      rw [show toPy (.lst ((n :: ns).map D.int)) = .list (((n :: ns).map D.int).map toPy) by simp only [toPy], toPy_ints] at this
      exact this
    refine ⟨a, vs, .int n, ns.map PyData.int, rfl, hs, dpa, alikeAll_ints (n :: ns), depthAll_le hsh, fun i y hy hu => ?_⟩
    have hi : i < ((n :: ns).map D.int).length := by rw [← ra.length]; exact (List.getElem?_eq_some_iff.mp hy).1
    obtain ⟨y', hy', ry⟩ := ra.get (List.getElem?_eq_getElem hi)
    rw [hy] at hy'; cases hy'
    rw [List.getElem_map] at ry
    have e : y = .int ((n :: ns)[i]'(by simpa using hi)) := ry
    have := hu (.int _) (by rw [e]; exact .int _)
    rw [PySem.W.minD_ints] at this
    refine hq y _ ?_ hp
    rw [e, PyData.int.inj this]; rfl
  · have hpl : plains 60 ((r :: rs).map fun c => D.tup (c.map D.int)) = true := plains_row _ 59
    have dpa := dpAll_of (fun x v => dp_of 60 x v) _ _ hpl ra
    rw [toPy_rows] at dpa
    have hsh : SeqAt.shaped (.list ((r :: rs).map rowP)) = true := by
      have := shaped_of (x := .lst ((r :: rs).map fun c => D.tup (c.map D.int))) (by show plain (59 + 1) _ = true; simp only [plain]; exact plains_row _ 58)
      rw [show toPy (.lst ((r :: rs).map fun c => D.tup (c.map D.int))) = .list (((r :: rs).map fun c => D.tup (c.map D.int)).map toPy) by simp only [toPy], toPy_rows] at this
      exact this
    refine ⟨a, vs, rowP r, rs.map rowP, rfl, hs, dpa, alikeAll_rows (r :: rs), depthAll_le hsh, fun i y hy hu => ?_⟩
    have hi : i < ((r :: rs).map fun c => D.tup (c.map D.int)).length := by rw [← ra.length]; exact (List.getElem?_eq_some_iff.mp hy).1
    obtain ⟨y', hy', ry⟩ := ra.get (List.getElem?_eq_getElem hi)
    rw [hy] at hy'; cases hy'
    rw [List.getElem_map] at ry
    have hd := dp_of 60 _ _ (by simp only [plain]; exact plains_int _ _) ry
    have := hu _ hd
    rw [show toPy (.tup (((r :: rs)[i]'(by simpa using hi)).map D.int)) = rowP ((r :: rs)[i]'(by simpa using hi)) by simp only [toPy, rowP, toPy_ints], minD_rows] at this
    refine hq y _ ?_ hp
    rw [← rowP_inj this]
    exact ry
theorem cv_min1 {k : Nat} (hc : X.calm = true) (hr : Room k X.A) : CV X (.builtin "min") fMin1 := by
  refine ⟨_, call_min1 hc hr, fun Pl O H ds vs Q P hO r h hq => ?_⟩
  obtain ⟨xs, hds, h⟩ := h
  rcases hds with rfl | rfl
  · obtain ⟨v, us, rfl, ⟨a, ws, rfl, qa, na, ra⟩, rfl⟩ := r
    exact min1_core (.inl (SqL.of qa)) ra h fun z d rz hp => hq H z d (Same.refl _) rz hp
  · obtain ⟨v, us, rfl, ⟨a, ws, rfl, qa, na, ra⟩, rfl⟩ := r
    exact min1_core (.inr (sqRd qa)) ra h fun z d rz hp => hq H z d (Same.refl _) rz hp
end
end DL

set_option Elab.async false
set_option linter.all false
set_option autoImplicit false
set_option maxRecDepth 100000
/-! DLE: enumerate of a list or a tuple. -/
namespace PySem
open AutoSeq1 (wpAny_loadPart')
theorem meets_enumerate_newTup (l : Addr) (items : Array Value) (n : Nat) (dct : Option Addr) (sl : Array (Option Value)) :
    Meets (Builtin.«enumerate.__new__» ⟨[.type "enumerate", .ref l], []⟩) (fun _ R s => s.heap.get? l = some { cls := .type "tuple", dict := dct, data := .seq items n, slots := sl } ∧
      R (.ok (.ret (.ref (s.heap.push { cls := .type "tuple_iterator", data := .fields #[.ref l, .int 0 0] }).objs.size)))
        { s with heap := (s.heap.push { cls := .type "tuple_iterator", data := .fields #[.ref l, .int 0 0] }).push { cls := .type "enumerate", data := .fields #[.none, .bool false, .ref s.heap.objs.size, rawInt 0, .none, .none] } }) :=
  .of_wp fun prog w A R s h => by
    obtain ⟨hp, g, d, tk, os⟩ := s; obtain ⟨hl, h⟩ := h
    have hsub := sub_enumerate
    have hL : Heap.IsTuple (Shared.heap ⟨hp, g, d, tk, os⟩) l items := ⟨_, hl, rfl, n, rfl⟩
    wp_walk using wpAny_loadPart' hl
    refine wpAny_stack_any fun st => wpAny_pure ?_
    split
    · rename_i c _ _ _ _ _
      cases (c == Value.type "enumerate")
      · wp_walk using wpAny_loadPart' hl, wpAny_pyIter_tuple hL
        exact ⟨_, rfl, h⟩
      · wp_walk using wpAny_loadPart' hl, wpAny_pyIter_tuple hL
        exact ⟨_, rfl, h⟩
    · wp_walk using wpAny_loadPart' hl, wpAny_pyIter_tuple hL
      exact ⟨_, rfl, h⟩
section
variable {prog : Program} {w : World} {A : Around} {E : Value → Shared → Prop} {s : Shared}
theorem call_enumerate_tuple {l : Addr} {items : Array Value} {Q : Value → Shared → Prop} (hL : s.heap.IsTuple l items)
    (h : ∀ h', IsEnum h' (s.heap.objs.size + 1) s.heap.objs.size 0 .none → h'.IsTupleIter s.heap.objs.size l 0 → h'.objs.size = s.heap.objs.size + 2 →
      (∀ b o, s.heap.get? b = some o → h'.get? b = some o) → Q (.ref (s.heap.objs.size + 1)) { s with heap := h' }) :
    wpAny (model prog w) A (call (.type "enumerate") [.ref l]) Q E s := by
  obtain ⟨⟨c, dct, dt, sl⟩, hl, hc, n, hd⟩ := hL
  replace hc : c = .type "tuple" := hc
  replace hd : dt = .seq items n := hd
  subst hc hd
  refine callType_new F.called_enumerate (by decide) (F.typeCall_enumerate_1 _) (F.newCall_enumerate_1 _) (fun obj => F.args_object_init_2 obj _) F.entry_enumerate_new
    (meets_enumerate_newTup l items n dct sl) ⟨hl, ?_⟩
  have hz : (s.heap.push { cls := .type "tuple_iterator", data := .fields #[.ref l, .int 0 0] }).objs.size = s.heap.objs.size + 1 := Heap.size_push ..
  show _ ∧ _
  rw [hz]
  have he : IsEnum ((s.heap.push { cls := .type "tuple_iterator", data := .fields #[.ref l, .int 0 0] }).push
      { cls := .type "enumerate", data := .fields #[.none, .bool false, .ref s.heap.objs.size, rawInt 0, .none, .none] }) (s.heap.objs.size + 1) s.heap.objs.size 0 .none := by
    have := Heap.get?_push_size (s.heap.push { cls := .type "tuple_iterator", data := .fields #[.ref l, .int 0 0] })
      (o := { cls := .type "enumerate", data := .fields #[.none, .bool false, .ref s.heap.objs.size, rawInt 0, .none, .none] }) rfl
    rw [hz] at this; exact this
  refine ⟨⟨_, he, rfl⟩, h _ he ⟨_, Heap.get?_push_of_some _ (Heap.get?_push_size _ rfl), rfl, rfl⟩ (by rw [Heap.size_push, hz]) fun b o x => Heap.get?_push_of_some _ (Heap.get?_push_of_some _ x)⟩
theorem wpAny_pyNext_enum_endT {e it l : Addr} {i : Nat} {items : Array Value} {old : Value} {Q : Option Value → Shared → Prop} (hh : A.handled = none)
    (he : IsEnum s.heap e it i old) (hit : s.heap.IsTupleIter it l i) (hl : s.heap.IsTuple l items) (hx : items[i]? = none)
    (hQ : ∀ h', Heap.ExtBut it s.heap h' → Q none { s with heap := h' }) : wpAny (model prog w) A (pyNext (.ref e)) Q E s := by
  have hT : s.TypeIs (.ref e) "enumerate" := ⟨_, he, rfl⟩
  unfold pyNext
  refine wpAny_bind (wpAny_attempt (wpAny_callSpecial?_slot (name := Str.ofString "__next__") hT F.slot_enumerate_next
    (wpAny_call_entry F.slot_enumerate_next hT F.entry_enumerate_next ?_ (F.args_enumerate_next_1 _))))
  show wpAny _ _ (field (.ref e) 2 >>= _) _ _ _
  refine wpAny_bind (wpAny_field he rfl (x := .ref it) rfl ?_)
  refine wpAny_bind (wpAny_nextOf_tuple_end hh hit hl hx fun h' x he' hx' => ?_)
  obtain ⟨o, ho, hc⟩ := hx'
  refine wpAny_bind (wpAny_isInstance (T := "StopIteration") (b := true) ⟨o, ho, hc⟩ isSubtype_stop ?_)
  exact wpAny_pure (hQ _ he')
end
end PySem
namespace DL
open PySem PySem.Spec PyProof.Rows L2
/-- the tuple at a, each item in a new pair -/
def IteT (K : PySem.W.Frag) (a : Addr) : It :=
  ⟨fun i H => ∃ (xs : List V) (x : V), SqT K H a xs ∧ xs[i]? = some x, fun i H v H' => ∃ T x, v = .ref T ∧ H T = none ∧ H' = upd H T (.tup [.int (i : Nat), x]) ∧ ∀ xs, SqT K H a xs → xs[i]? = some x, fun i H => ∃ xs : List V, SqT K H a xs ∧ xs.length ≤ i⟩
theorem turn_enumT {P : Program} {w : World} {K : PySem.W.Frag} {elts : List Expr} {kk : Nat} {tpos : Pos} (a e it : Addr) :
    Turn P w K (.Tuple elts kk tpos) (IteT K a) [e, it] e (fun i h => (∃ old, IsEnum h e it ((i : Nat) : Int) old) ∧ h.IsTupleIter it a i ∧ e ≠ it ∧ a ≠ it ∧ a ≠ e) where
  mem := by simp
  obj := fun i h st b hb => by
    obtain ⟨⟨old, he⟩, ⟨o, ho, hc, hd⟩, _⟩ := st
    have e' : b = e ∨ b = it := by simpa using hb
    rcases e' with z | z
    · rw [z]; exact ⟨_, he, fun v q => nomatch q⟩
    · rw [z]; exact ⟨o, ho, fun v q => by rw [hd] at q; cases q⟩
  keep := fun i h h' st k => let ⟨⟨old, he⟩, hi, hne⟩ := st; ⟨⟨old, k e (by simp) _ he⟩, hi.at fun o q => k it (by simp) o q, hne⟩
  item := by
    intro X hP hw hK hc i pins s σ H E I hf st hg
    subst hP hw hK
    obtain ⟨⟨old, he⟩, hit, hne, hai, hae⟩ := st
    obtain ⟨xs, x, hq, hx⟩ := hg
    obtain ⟨its, rv, p, hz⟩ := I.tuple hq
    obtain ⟨u, hu, ru⟩ := rv.get hx
    have hel : e < s.heap.objs.size := Heap.lt_size he
    have hil : it < s.heap.objs.size := by obtain ⟨_, q, _⟩ := hit; exact Heap.lt_size q
    have hlt : i < its.toArray.size := by rw [List.size_toArray]; exact (List.getElem?_eq_some_iff.mp hu).1
    refine wpAny_pyNext_enum_itemD (Draws.tuple (A := X.A.in1) (I.ok.hd hc) it a hai its.toArray) he ⟨hit, p⟩ hlt hne (by simp; exact ⟨hne, fun z => hae z.symm⟩) fun v h' tk hv ho hst hT hsz hk => ?_
    have ev : v = u := by
      have : its[i]? = some v := by simpa using hv
      rw [hu] at this; exact (Option.some.inj this).symm
    subst ev
    refine ⟨_, rfl, wpAny_letOwnedTupleGo_enum (s := { s with heap := h', toks := tk + 1 }) ho fun h'' he' sb => ?_⟩
    have hT2 : h''.get? s.heap.objs.size = some { cls := .type "tuple", data := .seq #[.int i tk, v] } := (sb.2 _ (Nat.ne_of_gt hel)).trans hT
    have new : ObjOk X.prog X.w (upd H s.heap.objs.size (.tup [.int (i : Nat), x])) h'' s.heap.objs.size (.tup [.int (i : Nat), x]) :=
      ⟨by show 2 ≤ sizeLine; decide, [.int i tk, v], .cons ⟨_, rfl⟩ (.cons ru .nil), ⟨_, hT2, rfl, _, rfl⟩⟩
    have I1 : Inv X pins σ (upd H s.heap.objs.size (.tup [.int (i : Nat), x])) { s with heap := h'', toks := tk + 1 } :=
      I.turnedNew (ch := [e, it]) (fun b ob hb q => (sb.2 b (fun z => hb (by simp [z]))).trans (hk b ob (fun z => hb (by simp [z])) (fun z => hb (by simp [z])) q)) hf (Nat.le_refl _) new
    refine ⟨.ref s.heap.objs.size, _, I1, rfl, ⟨_, x, rfl, I.hok.fresh (Nat.le_refl _), rfl, fun ys hy => by rw [I.tuple_inj hy hq]; exact hx⟩, ⟨⟨v, ?_⟩, hst.1.at fun o q => (sb.2 it (Ne.symm hne)).trans q, hne, hai, hae⟩, fun b hb => ?_⟩
    · have e1 : ((i + 1 : Nat) : Int) = (i : Int) + 1 := by omega
      rw [e1]; exact he'
    · have hb' : b < s.heap.objs.size := by
        have e' : b = e ∨ b = it := by simpa using hb
        rcases e' with z | z
        · rw [z]; exact hel
        · rw [z]; exact hil
      rw [upd_ne (Nat.ne_of_lt hb')]
      exact (hf b hb).1
  done := by
    intro X hP hw hK hc i pins s σ H E I hf st hg
    subst hP hw hK
    obtain ⟨⟨old, he⟩, hit, hne, hai, hae⟩ := st
    obtain ⟨xs, hq, hx⟩ := hg
    obtain ⟨its, rv, p, hz⟩ := I.tuple hq
    obtain ⟨f0, f1, f2, f3, f4, f5⟩ := hf it (by simp)
    have hl := rv.length
    exact wpAny_pyNext_enum_endT (I.ok.hd hc) he hit p (by simp; omega) fun h' eb => ⟨rfl, I.turned (t' := s.toks) (fun b o hb q => eb b o hb q) f0 f1 f3 f4 f5⟩
  self := fun A i s Q E st h => let ⟨⟨_, he⟩, _⟩ := st; wpAny_pyIter_enum he h
def iEnumA (K : PySem.W.Frag) (ta : TA) : TI := fun σ H R => ta σ H fun vs H1 => ∃ a, vs = [.ref a] ∧ ((∃ xs, SqL K H1 a xs ∧ R (Ite K a) H1) ∨ ∃ xs, SqT K H1 a xs ∧ R (IteT K a) H1)
theorem pi_enumA {X : Cx} {e : Expr} {ta : TA} {p pos tpos : Pos} {elts : List Expr} {kk : Nat} (hg : Gl X "enumerate") (hm : X.mg "enumerate" = none) (ha : PA X [e] ta) (hs : starEach [e] X.env = [(false, eval e X.env)] := by rfl) :
    PI X (.Tuple elts kk tpos) (.Call (.Name "enumerate" p) [e] [] pos) (iEnumA X.K ta) := by
  refine ⟨fun pins s σ H R I h => ?_⟩
  refine Call_ (ld_blt I hg hm boot_enumerate (PyProof.Rows.callWith_type1 (thn (ha.run pos pins s σ H _ I h) fun us s1 ⟨vs, H1, I1, r1, q1⟩ => ?_) hs rfl))
  obtain ⟨a, ex, q1⟩ := q1
  subst ex
  cases r1 with
  | cons r rr =>
    cases rr
    cases r
    have young : ∀ b, b ∈ [s1.heap.objs.size + 1, s1.heap.objs.size] → FpOk X pins H1 b := fun b hb => by
      have e' : b = s1.heap.objs.size + 1 ∨ b = s1.heap.objs.size := by simpa using hb
      have hle : s1.heap.objs.size ≤ b := by
        rcases e' with z | z
        · rw [z]; exact Nat.le_add_right _ _
        · rw [z]; exact Nat.le_refl _
      exact I1.fpOk hle (I1.hok.fresh hle)
    rcases q1 with ⟨xs, hq, q⟩ | ⟨xs, hq, q⟩
    · obtain ⟨its, rv, p', hz⟩ := I1.list hq
      refine call_enumerate_list p'.isList fun h' he hit hsz hk => wpAny_pyIter_enum he ?_
      have I2 : Inv X pins σ H1 { s1 with heap := h' } := I1.kept (t' := s1.toks) hk
      exact ⟨s1.heap.objs.size + 1, [s1.heap.objs.size + 1, s1.heap.objs.size], _, _, H1, rfl, I2, turn_enum a (s1.heap.objs.size + 1) s1.heap.objs.size, ⟨⟨.none, he⟩, hit, Nat.succ_ne_self _⟩, young, q⟩
    · obtain ⟨its, rv, p', hz⟩ := I1.tuple hq
      have hal : a < s1.heap.objs.size := by obtain ⟨o, ho, _⟩ := id p'; exact Heap.lt_size ho
      refine call_enumerate_tuple p' fun h' he hit hsz hk => wpAny_pyIter_enum he ?_
      have I2 : Inv X pins σ H1 { s1 with heap := h' } := I1.kept (t' := s1.toks) hk
      exact ⟨s1.heap.objs.size + 1, [s1.heap.objs.size + 1, s1.heap.objs.size], _, _, H1, rfl, I2, turn_enumT a (s1.heap.objs.size + 1) s1.heap.objs.size, ⟨⟨.none, he⟩, hit, Nat.succ_ne_self _, Nat.ne_of_lt hal, Nat.ne_of_lt (Nat.lt_succ_of_lt hal)⟩, young, q⟩
section
variable {X : Cx} {Tb : Addr → Prop} {e : Expr} {m : ME} {pos p tpos : Pos} {elts : List Expr} {kk : Nat}
theorem iv_enum (hg : Gl X "enumerate") (hm : X.mg "enumerate" = none) (h : EV X Tb e m) (hs : starEach [e] X.env = [(false, eval e X.env)] := by rfl) :
    IV X Tb (.Tuple elts kk tpos) (.Call (.Name "enumerate" p) [e] [] pos) (iEnum m) := by
  obtain ⟨t, pe, h⟩ := h.ex
  refine ⟨_, pi_enumA hg hm (pa_cons pe pa_nil hs) hs, fun W Oc H0 O H σ env R P F hm hq => ?_⟩
  refine h W Oc H0 O H σ env _ _ F hm fun H1 v d e1 F1 s1 r1 q1 => ?_
  cases d with
  | lst xs =>
    obtain ⟨a, vs, rfl, qa, na, ra⟩ := r1
    refine ⟨a, rfl, .inl ⟨vs, SqL.of qa, hq H1 _ _ e1 F1 s1 (fun O2 H2 mv hO i => ⟨fun d hd => ?_, fun hle => ?_⟩) q1⟩⟩
    · obtain ⟨q2, n2⟩ := mv a _ qa na
      obtain ⟨y, hy, rfl⟩ := enumT_get xs 0 i d hd
      obtain ⟨v, e2, r2⟩ := ra.get hy
      refine ⟨⟨vs, v, SqL.of q2, e2⟩, fun x H3 ⟨T, x0, ex, hT, eH, hy2⟩ => ?_⟩
      subst ex eH
      have e3 := hy2 vs (SqL.of q2)
      rw [e2] at e3
      cases e3
      refine ⟨same_upd hT, rep_new_tup hO ⟨_, _, rfl, ?_, _, _, rfl, Rep.mv mv r2, rfl⟩ hT⟩
      show V.int _ = V.int _
      congr 1; omega
    · exact ⟨vs, SqL.of (mv a _ qa na).1, by rw [ra.length]; rw [enumT_len] at hle; exact hle⟩
  | tup xs =>
    obtain ⟨a, vs, rfl, qa, na, ra⟩ := r1
    refine ⟨a, rfl, .inr ⟨vs, sqRd qa, hq H1 _ _ e1 F1 s1 (fun O2 H2 mv hO i => ⟨fun d hd => ?_, fun hle => ?_⟩) q1⟩⟩
    · obtain ⟨q2, n2⟩ := mv.rd qa na
      obtain ⟨y, hy, rfl⟩ := enumT_get xs 0 i d hd
      obtain ⟨v, e2, r2⟩ := ra.get hy
      refine ⟨⟨vs, v, sqRd q2, e2⟩, fun x H3 ⟨T, x0, ex, hT, eH, hy2⟩ => ?_⟩
      subst ex eH
      have e3 := hy2 vs (sqRd q2)
      rw [e2] at e3
      cases e3
      refine ⟨same_upd hT, rep_new_tup hO ⟨_, _, rfl, ?_, _, _, rfl, Rep.mv mv r2, rfl⟩ hT⟩
      show V.int _ = V.int _
      congr 1; omega
    · exact ⟨vs, sqRd (mv.rd qa na).1, by rw [ra.length]; rw [enumT_len] at hle; exact hle⟩
  | _ => exact False.elim q1
end
end DL

set_option Elab.async false
set_option linter.all false
set_option autoImplicit false
set_option maxRecDepth 100000
/-! DH: a law's own def. -/
namespace DL
open PySem PySem.Spec PyProof.Rows L2
variable {K : PySem.W.Frag} {Tb : Addr → Prop}
theorem ints_reps {Pl O : Addr → Prop} {H : Hp} : ∀ {ns : List Int} {us : List V}, Reps K Pl O H (ns.map D.int) us → us = ns.map V.int
  | [], _, h => h
  | n :: ns, _, h => by
    obtain ⟨v, r, rfl, e, ru⟩ := h
    cases (show v = _ from e)
    rw [ints_reps ru]; rfl
/-- before the pool is made -/
def W0 (K : PySem.W.Frag) (Tb : Addr → Prop) : Wd K Tb where
  Pl := fun _ => False
  Z := Tb
  G := fun H => ∀ a, Tb a → GxR.TabG H a
  pz := fun _ h => h.elim
  tz := fun _ h => h
  loc := fun H H' h g a z => by obtain ⟨ps, e, k⟩ := g a z; exact ⟨ps, by rw [h a z]; exact e, k⟩
  dom := fun H a g z => by obtain ⟨ps, e, k⟩ := g a z; exact ⟨_, e⟩
  pq := fun _ => 0
  pool := fun _ _ _ h => h.elim
  pools := fun _ _ _ _ h => h.elim
  tab := fun H a g z => g a z
  tabs := fun H H' a g z h t b zb => by
    by_cases e : b = a
    · rw [e]; exact t
    · obtain ⟨ps, q, k⟩ := g b zb; exact ⟨ps, by rw [h b e]; exact q, k⟩
/-- the pool at p -/
def W1 (K : PySem.W.Frag) (Tb : Addr → Prop) (p q : Addr) : Wd K Tb where
  Pl := fun a => a = p
  Z := fun a => Tb a ∨ a = p ∨ a = q
  G := fun H => (∀ a, Tb a → GxR.TabG H a) ∧ PoolOk H p q
  pz := fun _ h => .inr (.inl h)
  tz := fun _ h => .inl h
  loc := fun H H' h g => ⟨fun a z => by obtain ⟨ps, e, k⟩ := g.1 a z; exact ⟨ps, by rw [h a (.inl z)]; exact e, k⟩, by
    obtain ⟨ns, i, v, c, s, e1, e2, h0, hn⟩ := g.2
    exact ⟨ns, i, v, c, s, by rw [h p (.inr (.inl rfl))]; exact e1, by rw [h q (.inr (.inr rfl))]; exact e2, h0, hn⟩⟩
  dom := fun H a g z => by
    rcases z with z | rfl | rfl
    · obtain ⟨ps, e, k⟩ := g.1 a z; exact ⟨_, e⟩
    · obtain ⟨ns, i, v, c, s, e1, e2, h0, hn⟩ := g.2; exact ⟨_, e1⟩
    · obtain ⟨ns, i, v, c, s, e1, e2, h0, hn⟩ := g.2; exact ⟨_, e2⟩
  pq := fun _ => q
  pool := fun H a g h => by rw [show a = p from h]; exact g.2
  pools := fun H H' a g h k po => by
    have h : a = p := h
    subst h
    refine ⟨fun b zb => ?_, po⟩
    have t := g.1 b zb
    obtain ⟨ps, e, kk⟩ := t
    by_cases hb : b = a
    · subst hb
      obtain ⟨ns, i, v, c, s, e1, e2, h0, hn⟩ := g.2
      rw [e1] at e; cases e
    · exact ⟨ps, by rw [k b hb]; exact e, kk⟩
  tab := fun H a g z => g.1 a z
  tabs := fun H H' a g z h t => by
    obtain ⟨ps, e, kk⟩ := g.1 a z
    obtain ⟨ns, i, v, c, s, e1, e2, h0, hn⟩ := g.2
    have hp : p ≠ a := fun e' => by rw [e', e] at e1; cases e1
    have hq : q ≠ a := fun e' => by rw [e', e] at e2; cases e2
    refine ⟨fun b zb => ?_, ns, i, v, c, s, by rw [h p hp]; exact e1, by rw [h q hq]; exact e2, h0, hn⟩
    by_cases eb : b = a
    · rw [eb]; exact t
    · obtain ⟨ps, q, k⟩ := g.1 b zb; exact ⟨ps, by rw [h b eb]; exact q, k⟩
def spLaw (K : PySem.W.Frag) (Tb : Addr → Prop) : Sp := fun vs H Q _ => ∃ (a : Addr) (ns : List Int), vs = [.ref a] ∧ SqL K H a (ns.map V.int) ∧ (∀ t, Tb t → GxR.TabG H t) ∧ ∀ H', Q (.bl true) H'
theorem law_d {P : Program} {w : World} {mg : Str → Option Value} {base : Heap} {x qual : Str} {params : Arguments} {st0 : Stmt} {e0 : Expr} {rest : List Stmt} {scope : Scope} {f : Addr} {fd : FuncData} {N : List Str} {k : Nat} {mr : MS} (Fu : FunD K x qual params (st0 :: rest) scope [] [] f fd) (S : FnScope N ["script"] scope) (hN : 2 ≤ N.length)
    (hb : ∀ (cdv : Value) (A : Around) (outer : List PySem.Env) (s : Shared) (H : Hp) (E : XK), fd.code = cdv → Room k (A.deeper (envOfC qual scope s.heap.objs.size f cdv)) →
      (∀ te, PE (cxOf CX0 P w K mg base N qual scope f cdv A outer s H E).nox e0 te → PS (cxOf CX0 P w K mg base N qual scope f cdv A outer s H E).nox st0 (tAsg te (L2.gName 1))) ∧
      EV (cxOf CX0 P w K mg base N qual scope f cdv A outer s H E).nox Tb e0 (eCall F__law_pool (aCons (eVar 0) aNil)) ∧
      BV (cxOf CX0 P w K mg base N qual scope f cdv A outer s H E).nox Tb rest mr)
    (hF : ∀ Q : D → Prop, Q (.bl true) → mr { nx := fun _ => Q .non, rt := Q } (none :: some (.val .pool) :: List.replicate (N.length - 2) none)) : FnOk P w K mg base CX0 (k + 1) f fd ["script"] (spLaw K Tb) := by
  obtain ⟨oc, od, dV, kV, doc, pm, an, cdv, ct, osl, rfl, lk, hcd, _, _⟩ := Fu.ex
  refine fn_of lk hcd S (fun vs H Q E h => ?_) (fun A outer s H vs Q E hr h => ?_)
  · obtain ⟨a, ns, rfl, _⟩ := h; rfl
  · obtain ⟨a, ns, rfl, hS, hT, hQ⟩ := h
    obtain ⟨hset, h0, hb⟩ := hb cdv A outer s H E rfl hr
    obtain ⟨t0, p0, h0⟩ := h0.ex
    obtain ⟨tr, pr, h2⟩ := hb.ex
    refine ⟨_, PSs.nox (pss_cons (hset t0 p0) pr), ?_⟩
    have hst : L2.start N [.ref a] = some (.ref a) :: List.replicate (N.length - 1) none := rfl
    have F0 : FR (W0 K Tb) Tb H Tb H (L2.start N [.ref a]) (some (.val (.frz ns)) :: List.replicate (N.length - 1) none) := by
      refine ⟨hT, fun _ _ h _ => h, fun _ h => h, fun b h => ?_, fun _ h => h, fun _ h => .inl h, ?_, fun i s e => ?_, fun i j es fs b _ e _ mm => ?_⟩
      · obtain ⟨ps, e, _⟩ := hT b h; exact ⟨_, e⟩
      · rw [hst]; simp
      · cases i with
        | zero =>
          cases e
          refine ⟨_, rfl, a, rfl, ?_⟩
          rcases hS with hS | hS
          · refine .inl ⟨hS, fun z => ?_⟩
            obtain ⟨ps, e, _⟩ := hT a z
            rcases hS with hS | ⟨o, hS⟩ <;> (rw [e] at hS; cases hS)
          · exact .inr (.inr hS)
        | succ i =>
          rw [List.getElem?_cons_succ, List.getElem?_replicate] at e
          split at e <;> cases e
      · cases i with
        | zero => cases e; cases mm
        | succ i =>
          rw [List.getElem?_cons_succ, List.getElem?_replicate] at e
          split at e <;> cases e
    refine h0 (W0 K Tb) Tb H Tb H _ _ _ (fun d _ => ∃ salt, d = poolD ns 0 0 0 salt) F0 ⟨ns, rfl, fun salt => ⟨salt, rfl⟩⟩ fun H1 v d e1 F1 s1 r1 q1 => ?_
    obtain ⟨salt, rfl⟩ := q1
    obtain ⟨p, vs, rfl, hp, np, v1, r, rfl, ⟨q, us, rfl, hq, nq, ru⟩, v2, r', rfl, e2, v3, r'', rfl, e3, v4, r3, rfl, e4, v5, r4, rfl, e5, e6⟩ := r1
    cases (show v2 = _ from e2); cases (show v3 = _ from e3); cases (show v4 = _ from e4); cases (show v5 = _ from e5); cases (show r4 = _ from e6)
    have hus := ints_reps ru
    subst hus
    have hpq : q ≠ p := fun e => by
      rw [e, hp] at hq
      cases ns with
      | nil => cases hq
      | cons n ns => cases hq
    have F2 : FR (W1 K Tb p q) (W1 K Tb p q).Z H1 (W1 K Tb p q).Z H1 ((L2.start N [.ref a]).set 1 (some (.ref p))) (none :: some (.val .pool) :: List.replicate (N.length - 2) none) := by
      refine ⟨⟨F1.g, ns, 0, 0, 0, salt, hp, hq, by omega, hpq⟩, fun _ _ h _ => h, fun _ h => h, fun b h => ?_, fun _ h => h, fun _ h => .inl h, ?_, fun i s e => ?_, fun i j es fs b _ e _ mm => ?_⟩
      · rcases h with h | rfl | rfl
        · obtain ⟨ps, e, _⟩ := F1.g b h; exact ⟨_, e⟩
        · exact ⟨_, hp⟩
        · exact ⟨_, hq⟩
      · rw [List.length_set, hst]; simp; omega
      · cases i with
        | zero => cases e
        | succ i => cases i with
          | zero =>
            cases e
            refine ⟨.ref p, ?_, p, rfl, rfl⟩
            rw [List.getElem?_set_self (by rw [hst]; simp; omega)]
          | succ i =>
            rw [List.getElem?_cons_succ, List.getElem?_cons_succ, List.getElem?_replicate] at e
            split at e <;> cases e
      · cases i with
        | zero => cases e
        | succ i => cases i with
          | zero => cases e; cases mm
          | succ i =>
            rw [List.getElem?_cons_succ, List.getElem?_cons_succ, List.getElem?_replicate] at e
            split at e <;> cases e
    refine h2 (W1 K Tb p q) _ H1 _ H1 _ _ _ _ F2 (hF (fun d => d = .bl true) rfl) ⟨fun O' H' σ' env' F' _ q => ?_, fun H' v d kp rv q => ?_, fun _ _ _ _ _ _ q => False.elim q, fun _ _ _ _ _ _ q => False.elim q, fun _ _ _ _ _ _ _ _ _ q => False.elim q⟩
    · cases q
    · subst q
      cases (show v = _ from rv)
      exact hQ H'
/-- a def with its code object, by the head's facts -/
theorem df1_of {x : Str} {mg : Str → Option Value} {st : Stmt} {ps : List Str} {fd : FuncData} (F : FunD K x x (defArgs st) (defBody st) (defScope st) [] [] (He.fAd K (x, none)) fd) (g : mg x = some (.ref (He.fAd K (x, none)))) (b : Binds K fd ps []) : Df1 K mg x st ps (He.codeOf K (x, none)) := by
  obtain ⟨oc, od, dV, kV, doc, pm, an, cdv, ct, osl, hfd, lk, hcd, _, _⟩ := id F.ex
  obtain ⟨c0, e0⟩ := He.codeIn_ref hcd
  have e1 : fd.code = .ref c0 := by rw [hfd]; exact e0
  exact ⟨_, fd, F, g, b, by rw [He.codeOf_eq lk e1]; exact e1⟩
theorem code_of {x : Str} {st : Stmt} {fd : FuncData} (F : FunD K x x (defArgs st) (defBody st) (defScope st) [] [] (He.fAd K (x, none)) fd) : fd.code = .ref (He.codeOf K (x, none)) := by
  obtain ⟨oc, od, dV, kV, doc, pm, an, cdv, ct, osl, hfd, lk, hcd, _, _⟩ := id F.ex
  obtain ⟨c0, e0⟩ := He.codeIn_ref hcd
  have e1 : fd.code = .ref c0 := by rw [hfd]; exact e0
  rw [He.codeOf_eq lk e1]; exact e1
/-- the tables of a list of defs -/
def TbOf (K : PySem.W.Frag) (tf : List He.Defn) (t : Addr) : Prop := ∃ p ∈ tf, t = (He.cT K p).2
end DL

set_option Elab.async false
set_option linter.all false
set_option autoImplicit false
set_option maxRecDepth 100000
set_option maxHeartbeats 1000000
/-! DG: generator expressions whose elements do anything that an expression may do. -/
namespace GX
open PySem PySem.Spec PyProof.Rows L2 GenW

/-- the context of the generator's frame -/
abbrev gex (X : Cx) (s : Shared) (H : Hp) (cenv : Env) (fp : List Addr) (A : Around) : Cx :=
  { X with A := A, s_0 := s, H_0 := H, env := cenv, outer := X.stack, stack := cenv :: X.stack, ex := fp, fn := fun _ => false, pn := [], xe := fun _ _ => False }
theorem inv_gens {X : Cx} {pins : List (Addr × Obj)} {σ : L2.St} {H : Hp} {s s' : Shared} (I : Inv X pins σ H s) (k : ∀ b o, s.heap.get? b = some o → s'.heap.get? b = some o) (ho : s'.os = s.os) (hg : AllBare s'.gens) : Inv X pins σ H s' :=
  I.call' (ch := []) ho (Un.kept k) (I.hok.kept k) hg fun b hb => absurd hb (by simp)
section
variable {X : Cx} {pins : List (Addr × Obj)} {σ : L2.St} {H : Hp} {s : Shared}
theorem gen_inv {scope : Scope} {own : List (Str × Nat)} {fp : List Addr} {A : Around} {code : Value} {it : Value} {h' : Heap} (I : Inv X pins σ H s) (ok : BlkOk X.N X.env.scope scope own) (nc : ∀ y ∈ scope.names, y.2 ≠ .cell) (hN : X.N.Nodup)
    (hfp : ∀ b ∈ fp, FpOk X pins H b ∧ b < s.heap.objs.size) (hA : A.handled = none) (hfr : A.frames = some (genEnv scope (cloFrom X.env.cells scope.names []) s.heap.objs.size code builtinsNs X.env :: X.stack))
    (hn : h'.Ns s.heap.objs.size (fun y => if y = ".0" then some it else none)) (hs : Heap.SameBut s.heap.objs.size (s.heap.push { cls := .type "frame", data := .dict #[] }) h') :
    Inv (gex X s H (genEnv scope (cloFrom X.env.cells scope.names []) s.heap.objs.size code builtinsNs X.env) fp A) [] (L2.wipe σ (own.map (·.2))) H { s with heap := h' } := by
  have hfree : ∀ y ∈ scope.names, y.2 = .free → ∃ c, X.env.cells.lookup y.1 = some c := fun y hy e => by
    rcases ok.free y hy e with k | k
    · exact I.ok.has _ (.inl k)
    · exact I.ok.has _ (.inr k)
  have kp : ∀ b o, s.heap.get? b = some o → h'.get? b = some o := fun b o e => hs.extBut b o (Nat.ne_of_lt (Heap.lt_size e)) (Heap.get?_push_of_some _ e)
  generalize hcenv : genEnv scope (cloFrom X.env.cells scope.names []) s.heap.objs.size code builtinsNs X.env = cenv at hfr ⊢
  have hL : cenv.locals = s.heap.objs.size := by rw [← hcenv]; rfl
  have hcl : cenv.cells = cloFrom X.env.cells scope.names [] := by rw [← hcenv]; rfl
  have hsc : cenv.scope = scope := by rw [← hcenv]; rfl
  have cm : ∀ {y c}, (y, c) ∈ cloFrom X.env.cells scope.names [] → X.env.cells.lookup y = some c ∧ c < s.heap.objs.size := fun {y c} hm => by
    rcases cloFrom_mem hm with hm | ⟨h1, rfl⟩
    · cases hm
    · obtain ⟨c, hc⟩ := hfree _ h1 rfl
      rw [hc]
      obtain ⟨w, z⟩ := I.cell _ _ hc
      exact ⟨rfl, z.lt⟩
  have mem : ∀ {y c}, cenv.cells.lookup y = some c → X.env.cells.lookup y = some c ∧ c < s.heap.objs.size := fun {y c} e => by
    rw [hcl] at e
    exact cm (PySem.mem_of_lookup e)
  have look : ∀ {y}, scope.names.lookup y = some .free → ∃ c, cenv.cells.lookup y = some c ∧ X.env.cells.lookup y = some c := fun {y} hl => by
    have hy : (y, NameKind.free) ∈ scope.names := PySem.mem_of_lookup hl
    obtain ⟨c', e'⟩ := mem_lookup (cloFrom_has (cells := X.env.cells) (acc := []) hy)
    rw [← hcl] at e'
    exact ⟨c', e', (mem e').1⟩
  have kinds : ∀ {y k}, cenv.kindOf y = some k → scope.names.lookup y = some k := fun {y k} e => by
    unfold Env.kindOf at e
    rw [hsc] at e; exact e
  have okB : (gex X s H cenv fp A).Ok := by
    refine ⟨I.ok.mod, by show cenv.scope.kind = _; rw [hsc]; exact ok.kind, by show cenv.globals = _; rw [← hcenv]; exact I.ok.glob, by show cenv.builtins = _; rw [← hcenv]; rfl, by show s.heap.objs.size ≤ cenv.locals; rw [hL]; exact Nat.le_refl _,
      fun y z c e1 e2 => I.ok.inj y z c (mem e1).1 (mem e2).1, fun y hy => ?_, fun y c z => (by cases z), fun _ => hA, hfr, .inr ⟨rfl, by show cenv.frame = some cenv.locals; rw [← hcenv]; rfl⟩, fun b hb => ⟨?_, fun y c e z => ?_⟩, I.bs, Nat.le_trans I.ok.bsz I.sz, fun b o e hb => ?_, fun b hb z => ?_, I.stack, I.stkFree⟩
    · rcases hy with hy | hy
      · exact absurd rfl (nc _ (PySem.mem_of_lookup (kinds hy)))
      · obtain ⟨c, h1, _⟩ := look (kinds hy)
        exact ⟨c, h1⟩
    · show b ≠ cenv.locals
      rw [hL]; exact Nat.ne_of_lt (hfp b hb).2
    · exact (hfp b hb).1.2.2.2.2.1 y c (mem e).1 z
    · rcases (hfp b hb).1.2.2.2.1 with z | z
      · exact I.ok.noex b o e z
      · exact absurd (Nat.lt_of_lt_of_le (Heap.lt_size e) (Nat.le_trans I.ok.bsz z)) (Nat.lt_irrefl _)
    · rcases List.mem_cons.mp (I.stkSub b z) with z | z
      · exact (hfp b hb).1.2.1 z
      · exact (hfp b hb).1.2.2.1 z
  refine ⟨okB, rfl, I.bare, Un.kept kp, ⟨_, by show Heap.Ns _ cenv.locals _; rw [hL]; exact hn, fun i y av e1 e2 e3 => ?_⟩, fun y c e => ?_, ?_, fun y c e => ?_, fun p hp => ?_, I.hok.kept kp, by rw [wipe_length]; exact I.len⟩
  · obtain ⟨e2, hne⟩ := wipe_some e2
    have e3 : Vis cenv.scope y := e3
    have no : ∀ k, scope.names.lookup y = some k → ¬ (k = .local ∨ k = .cell) := fun k e hh => by
      rcases ok.own _ (PySem.mem_of_lookup e) hh with e' | e'
      · obtain ⟨p, hp, hpy⟩ := List.mem_map.mp e'
        have e3 := ok.ix p hp
        have : p.1 = y := hpy
        rw [this] at e3
        exact hne (List.mem_map.mpr ⟨p, hp, nodup_ix hN e3 e1⟩)
      · exact e' (List.mem_of_getElem? e1)
    have hfr : scope.names.lookup y = some .free := by
      rw [hsc] at e3
      rcases e3 with e3 | e3 | e3
      · exact absurd (.inl rfl) (no _ e3)
      · exact absurd (.inr rfl) (no _ e3)
      · exact e3
    obtain ⟨m, hn, hl⟩ := I.loc
    have hvis : Vis X.env.scope y := (ok.free _ (PySem.mem_of_lookup hfr) rfl).elim (fun k => .inr (.inl k)) (fun k => .inr (.inr k))
    obtain ⟨w, r, q⟩ := hl i y av e1 e2 hvis
    refine ⟨w, r, .inr ⟨.inr (by show cenv.scope.names.lookup y = _; rw [hsc]; exact hfr), ?_⟩⟩
    obtain ⟨c, h1, h2⟩ := look hfr
    rcases q with ⟨k, _⟩ | ⟨_, c', e', z⟩
    · have k : X.env.scope.names.lookup y = some .local := k
      rcases ok.free _ (PySem.mem_of_lookup hfr) rfl with k' | k' <;> rw [show X.env.scope.names.lookup y = _ from k'] at k <;> cases k
    · rw [h2] at e'; cases e'
      exact ⟨c, h1, z.keeps kp⟩
  · obtain ⟨h1, _⟩ := mem e
    obtain ⟨w, z⟩ := I.cell y c h1
    exact ⟨w, z.keeps kp⟩
  · show H cenv.locals = none
    rw [hL]; exact I.hok.fresh (Nat.le_refl _)
  · exact I.freeC y c (mem e).1
  · exact absurd (show p ∈ ([] : List (Addr × Obj)) ++ [] from hp) (by simp)
end

/-! ### the generator's turns -/
/-- what a generator walks, tests, hands out: W what holds at turn i (with a measure), End when it stops, Yl what the consumer gets -/
structure Gn (G : Cx) (wipes : L2.St) (vs : List Nat) (J : It) (g : TG) (tt : TT) (te : TE) (W : Nat → Nat → Hp → Prop) (End : Hp → Prop) (Yl : Nat → Nat → V → Hp → Prop) : Prop where
  turn : ∀ i m H, W i m H → (J.stop i H ∧ End H) ∨ (J.go i H ∧ ∀ x H', J.yld i H x H' → g x wipes H' fun σ2 H2 => L2.wipe σ2 vs = wipes ∧ tt σ2 H2 fun b H3 =>
    if b = true then te σ2 H3 fun y H4 => Yl i m y H4 else ∃ m', m' < m ∧ W (i + 1) m' H3)
/-- running, ahead of turn i -/
structure Aw (G : Cx) (pins : List (Addr × Obj)) (σ : L2.St) (fp : List Addr) (tn : Nat → Heap → Prop) (i : Nat) (H : Hp) (s : Shared) : Prop where
  inv : Inv G pins σ H s
  st : tn i s.heap
  fp : ∀ b ∈ fp, H b = none
def GXY (G : Cx) (pins : List (Addr × Obj)) (σ : L2.St) (fp : List Addr) (tn : Nat → Heap → Prop) (W : Nat → Nat → Hp → Prop) (Yl : Nat → Nat → V → Hp → Prop) : Protocol := fun n s₀ v s kap =>
  ∃ i m y H, m ≤ n ∧ RelV y v ∧ Aw G pins σ fp tn (i + 1) H s ∧ Yl i m y H ∧ ∀ s'' m' H'', m' < m → W (i + 1) m' H'' → Aw G pins σ fp tn (i + 1) H'' s'' → kap (.send .none) s''
def GXE (G : Cx) (pins : List (Addr × Obj)) (σ : L2.St) (End : Hp → Prop) : Nat → Shared → Shared → Prop := fun _ _ s => ∃ H, Inv G pins σ H s ∧ End H
section
variable {G : Cx} {pins : List (Addr × Obj)} {σ : L2.St} {fp : List Addr} {tn : Nat → Heap → Prop} {W : Nat → Nat → Hp → Prop} {End : Hp → Prop} {Yl : Nat → Nat → V → Hp → Prop} {J : It} {g : TG} {tt : TT} {te : TE} {vs : List Nat}
variable {elt tg iter : Expr} {ifs : List Expr} {scope : Scope} {pos : Pos} {it : Addr} {A : Around}
theorem seg_gx (hc : G.calm = true) (hxe : G.xe = fun _ _ => False) (hpn : G.pn = []) (hpi : ∀ p ∈ pins, p.1 ∉ fp) (hex : G.ex = fp) (T : Turn G.prog G.w G.K tg J fp it tn) (pg : PG G tg g) (pt : PTs G ifs tt) (pe : PE G elt te)
    (hwip : L2.wipe σ vs = σ) (hco : G.env.scope.isCoroutine = false)
    (hov : A.over (.compLoop (.GeneratorExp elt [⟨tg, iter, ifs, 0⟩] scope pos) 0 (.ref it) .none G.env) [] = G.A) (gn : Gn G σ vs J g tt te W End Yl) :
    ∀ (m n i : Nat) (s₀ s : Shared) (H : Hp), m < n → W i m H → Aw G pins σ fp tn i H s →
      Seg (model G.prog G.w) A (fun n s₀ r s₁ => r = .ok .next ∧ GXE G pins σ End n s₀ s₁) (GXY G pins σ fp tn W Yl) n s₀
        (.compLoop (.GeneratorExp elt [⟨tg, iter, ifs, 0⟩] scope pos) 0 (.ref it) .none G.env)
        ((model G.prog G.w).den (.compLoop (.GeneratorExp elt [⟨tg, iter, ifs, 0⟩] scope pos) 0 (.ref it) .none G.env)) [] s := by
  intro m
  induction m using Nat.strongRecOn with
  | ind m ih =>
    intro n i s₀ s H hmn w aw
    have stat : ∀ {H' : Hp} {σ' : L2.St} {s' : Shared}, Inv G pins σ' H' s' → (∀ b ∈ fp, H' b = none) → ∀ b ∈ fp, FpOk G pins H' b := fun {H' σ' s'} I' hn b hb =>
      ⟨hn b hb, (I'.ok.exf b (by rw [hex]; exact hb)).1, I'.ok.exfs b (by rw [hex]; exact hb), .inl (by rw [hex]; exact hb), fun x c e => (I'.ok.exf b (by rw [hex]; exact hb)).2 x c e, fun p hp z => by
        rw [hpn, List.nil_append] at hp
        exact hpi p hp (by rw [z]; exact hb)⟩
    have nof : ∀ {α : Prop} (x : Value) (s' : Shared), G.xe x s' → α := fun {α} x s' hx => by rw [hxe] at hx; exact hx.elim
    show Seg _ A _ _ _ s₀ _ ((compTurn (.GeneratorExp elt [⟨tg, iter, ifs, 0⟩] scope pos) 0 (.ref it) .none G.env).onRaise (leaving G.env)) [] s
    rw [compTurn_gen, Sem.onRaise_eq_wrap]
    refine seg_bind_wrap (wpAny_standAt ?_)
    rcases gn.turn i m H w with ⟨stop, hE⟩ | ⟨go, step⟩
    · refine seg_bind_wrap ?_
      rw [hov]
      refine wpAny_mono (T.done G rfl rfl rfl hc i pins s σ H (fun _ _ => False) aw.inv (stat aw.inv aw.fp) aw.st stop) (fun r s6 ⟨hr, I6⟩ => ?_) fun _ _ z => z.elim
      subst hr
      exact seg_end (.ok .next) ⟨rfl, H, I6, hE⟩
    · refine seg_bind_wrap ?_
      rw [hov]
      refine wpAny_mono (T.item G rfl rfl rfl hc i pins s σ H (fun _ _ => False) aw.inv (stat aw.inv aw.fp) aw.st go) (fun r s6 ⟨u, hr, h6⟩ => ?_) fun _ _ z => z.elim
      subst hr
      refine seg_bind_wrap ?_
      rw [hov]
      refine wpAny_mono h6 (fun _ s7 ⟨x, H7, I7, r7, y7, st7, n7⟩ => ?_) fun _ _ z => z.elim
      have I7' := I7.pinned (stat I7 n7) (T.obj _ _ st7)
      refine seg_bind_wrap ?_
      rw [hov]
      refine wpAny_mono (pg.run _ s7 σ H7 x u _ I7' r7 (step x H7 y7)) (fun _ s8 ⟨σ8, H8, I8, hw8, q8⟩ => ?_) fun x s' hx => nof x s' hx
      refine seg_bind_wrap ?_
      rw [hov]
      refine wpAny_mono (pt.run _ s8 σ8 H8 _ I8 q8) (fun b s9 ⟨H9, I9, q9⟩ => ?_) fun x s' hx => nof x s' hx
      have fin : ∀ {s' : Shared} {H' : Hp}, Inv G (pins ++ pinsAt fp s7.heap) σ8 H' s' → Aw G pins σ fp tn (i + 1) H' s' := fun {s' H'} I' => by
        have pin' : ∀ b ∈ fp, ∀ o, s7.heap.get? b = some o → s'.heap.get? b = some o ∧ H' b = none := fun b hb o e =>
          let z := I'.pin (b, o) (List.mem_append_right _ (List.mem_append_right _ (mem_pinsAt hb e)))
          ⟨z.1, z.2.1⟩
        have hl : σ.length = σ8.length := by rw [← hw8, wipe_length]
        refine ⟨I'.unpinned.weak hl fun j v e => ?_, T.keep _ _ _ st7 fun b hb o e => (pin' b hb o e).1, fun b hb => ?_⟩
        · rw [← hw8] at e
          exact (wipe_some e).1
        · obtain ⟨o, e, _⟩ := T.obj _ _ st7 b hb
          exact (pin' b hb o e).2
      cases b with
      | false =>
        simp only [Bool.false_eq_true, if_false] at q9 ⊢
        obtain ⟨m', hm', w'⟩ := q9
        exact seg_again rfl (ih m' hm' n (i + 1) s₀ s9 H9 (by omega) w' (fin I9))
      | true =>
        simp only [if_true] at q9 ⊢
        have hy : ∀ v, yieldOut G.env v = yieldValue v := fun v => by simp only [yieldOut, hco, Bool.false_eq_true, if_false]
        simp only [hy]
        rw [Sem.bind_eq_wrap', Sem.bind_eq_wrap', Sem.wrap_wrap, Sem.wrap_wrap]
        refine seg_wrap ?_
        rw [hov]
        refine wpAny_mono (pe.run _ s9 σ8 H9 _ I9 q9) (fun v s10 ⟨y, H10, I10, r10, q10⟩ => ?_) fun x s' hx => nof x s' hx
        obtain ⟨n', rfl⟩ : ∃ n', n = n' + 1 := ⟨n - 1, by omega⟩
        refine seg_at (seg_yield rfl rfl rfl ⟨i, m, y, H10, by omega, r10, fin I10, q10, fun s'' m' H'' hm' w' aw' => ?_⟩)
        exact seg_again rfl (ih m' hm' n' (i + 1) s'' s'' H'' (by omega) w' aw')
theorem seg_gx0 (hc : G.calm = true) (hxe : G.xe = fun _ _ => False) (hpn : G.pn = []) (hpi : ∀ p ∈ pins, p.1 ∉ fp) (hex : G.ex = fp) (T : Turn G.prog G.w G.K tg J fp it tn) (pg : PG G tg g) (pt : PTs G ifs tt) (pe : PE G elt te)
    (hwip : L2.wipe σ vs = σ) (hco : G.env.scope.isCoroutine = false)
    (hov : A.over (.compLoop (.GeneratorExp elt [⟨tg, iter, ifs, 0⟩] scope pos) 0 (.ref it) .none G.env) [] = G.A) (gn : Gn G σ vs J g tt te W End Yl)
    {m n : Nat} {s₀ s : Shared} {H : Hp} (hmn : m < n) (w : W 0 m H) (aw : Aw G pins σ fp tn 0 H s) :
      Seg (model G.prog G.w) A (fun n s₀ r s₁ => r = .ok .next ∧ GXE G pins σ End n s₀ s₁) (GXY G pins σ fp tn W Yl) n s₀
        (.compStart (.GeneratorExp elt [⟨tg, iter, ifs, 0⟩] scope pos) 0 (.ref it) .none G.env)
        ((model G.prog G.w).den (.compStart (.GeneratorExp elt [⟨tg, iter, ifs, 0⟩] scope pos) 0 (.ref it) .none G.env)) [] s := by
  have loop := fun s₀ => seg_gx (iter := iter) (scope := scope) (pos := pos) hc hxe hpn hpi hex T pg pt pe hwip hco hov gn m n 0 s₀ s H hmn w aw
  show Seg _ A _ _ _ s₀ _ ((compStart (.GeneratorExp elt [⟨tg, iter, ifs, 0⟩] scope pos) 0 (.ref it) .none G.env).onRaise (leaving G.env)) [] s
  unfold compStart
  rw [Sem.onRaise_eq_wrap]
  show Seg _ A _ _ _ s₀ _ ((ask >>= _).wrap _ _ _ _) [] s
  refine seg_bind_wrap (wpAny_askSetting ?_)
  split
  · exact seg_again rfl (loop s₀)
  · refine seg_bind_wrap (wpAny_rule ?_)
    show Seg _ A _ _ _ s₀ _ ((standAt iter.pos >>= _).wrap _ _ _ _) [] s
    exact seg_bind_wrap (wpAny_standAt (seg_bind_wrap (T.self _ 0 s _ _ aw.st (seg_again rfl (loop s₀)))))

/-! ### next -/
/-- asleep: it may be woken wherever W holds at turn i with a measure below B -/
def Asl (G : Cx) (pins : List (Addr × Obj)) (σ : L2.St) (fp : List Addr) (tn : Nat → Heap → Prop) (W : Nat → Nat → Hp → Prop) (End : Hp → Prop) (Yl : Nat → Nat → V → Hp → Prop) (A : Around) (n i B : Nat) (gs : GenState) : Prop :=
  ∀ s'' m' H'', m' < B → W i m' H'' → Aw G pins σ fp tn i H'' s'' → gs.Goes (model G.prog G.w) A (fun n s₀ r s₁ => r = .ok .next ∧ GXE G pins σ End n s₀ s₁) (GXY G pins σ fp tn W Yl) n (.send .none) s''
theorem aw_gens {i : Nat} {H : Hp} {s : Shared} (aw : Aw G pins σ fp tn i H s) {g : Nat} {x : GenState} (hx : x.bare = true) : Aw G pins σ fp tn i H (s.setGen g x) :=
  ⟨inv_gens aw.inv (fun _ _ e => e) rfl (allBare_setGen aw.inv.bare hx), aw.st, aw.fp⟩
theorem next_gx {E : Value → Shared → Prop} {a : Addr} {g : Nat} {gs : GenState} {n i B m : Nat} {H : Hp} {s : Shared} {Q : Option Value → Shared → Prop} (hh : A.handled = none) (hroom : A.depth < recursionLimit)
    (hga : ∀ σ' H' s', Inv G pins σ' H' s' → s'.heap.IsGen a g) (hgs : s.gens[g]? = some gs) (hgo : Asl G pins σ fp tn W End Yl A.in1 n i B gs) (hm : m < B) (w : W i m H) (aw : Aw G pins σ fp tn i H s)
    (hY : ∀ v s₁ gs' i' m' y H1, s₁.gens[g]? = some gs' → RelV y v → Aw G pins σ fp tn (i' + 1) H1 s₁ → Yl i' m' y H1 → (match n with
        | 0 => ∀ s'' m'' H'', m'' < m' → W (i' + 1) m'' H'' → Aw G pins σ fp tn (i' + 1) H'' s'' → False
        | n' + 1 => Asl G pins σ fp tn W End Yl A.in1 n' (i' + 1) m' gs') → Q (some v) s₁)
    (hE : ∀ s₁ H1, Inv G pins σ H1 s₁ → End H1 → Q none s₁) : wpAny (model G.prog G.w) A (pyNext (.ref a)) Q E s := by
  have hgl : g < s.gens.size := (Array.getElem?_eq_some_iff.mp hgs).1
  refine wpAny_gsz (n := g + 1) hgl ?_
  refine wpAny_pyNext_genexpQ (P := GXE G pins σ End) hh aw.inv.nolimit hroom (hga _ _ _ aw.inv) hgs (hgo _ m H hm w (aw_gens aw rfl)) (fun v s₁ gs' hb hv => ?_) (fun s₁ hp h' hk => ?_)
  · intro hsz
    obtain ⟨i', m', y, H1, hle, r, aw1, yl, kk⟩ := hv
    have hsz1 : g < s₁.gens.size := by
      have q : (s₁.setGen g gs').gens.size = s₁.gens.size := setGen_size _ _ _
      omega
    refine hY v _ gs' i' m' y H1 (setGen_at hsz1) r (aw_gens aw1 hb) yl ?_
    cases n with
    | zero => exact fun s'' m'' H'' h1 h2 h3 => kk s'' m'' H'' h1 h2 h3
    | succ n' => exact fun s'' m'' H'' h1 h2 h3 => kk s'' m'' H'' h1 h2 h3
  · intro _
    obtain ⟨H1, I1, e1⟩ := hp
    exact hE _ H1 (inv_gens (s' := { s₁.setGen g .finished with heap := h' }) I1 hk rfl (allBare_setGen I1.bare rfl)) e1

/-! ### all, any -/
theorem all_gx {R : Result → Shared → Prop} {a : Addr} {g : Nat} (hh : A.handled = none) (hroom : A.depth < recursionLimit) (hga : ∀ σ' H' s', Inv G pins σ' H' s' → s'.heap.IsGen a g) (Qf : Bool → Hp → Prop)
    (hEnd : ∀ H, End H → Qf true H) (hYl : ∀ i m y H, Yl i m y H → ∃ c, y = .bl c ∧ if c = true then ∃ m', m' < m ∧ W (i + 1) m' H else Qf false H)
    (hR : ∀ c s' H', Inv G pins σ H' s' → Qf c H' → R (.ok (.ret (.bool c))) s') :
    ∀ (n i B m : Nat) (H : Hp) (s : Shared) (gs : GenState), s.gens[g]? = some gs → Asl G pins σ fp tn W End Yl A.in1.in1 n i B gs → m < B → W i m H → Aw G pins σ fp tn i H s →
      codeAny (model G.prog G.w) A (.builtin "all.loop" ⟨[.ref a], []⟩) R s := by
  intro n
  induction n with
  | zero =>
    intro i B m H s gs hgs hgo hm w aw
    refine codeAny_builtin F.entry_all_loop ?_
    rw [Around.under_plainId F.plain_all_loop _]
    show wpAny _ A.in1 (pyNext (.ref a) >>= _) _ _ s
    refine wpAny_bind (next_gx (A := A.in1) hh hroom hga hgs hgo hm w aw (fun v s₁ gs' i' m' y H1 hgs' r aw1 yl kk => ?_) fun s₁ H1 I1 e1 => ?_)
    · obtain ⟨c, rfl, hq⟩ := hYl i' m' y H1 yl
      obtain rfl : v = .bool c := r
      refine wpAny_bind (wpAny_holding (wpAny_truthy_bool ?_))
      refine wpAny_bind (wpAny_letGo ?_)
      cases c with
      | true =>
        obtain ⟨m'', h1, h2⟩ := hq
        exact (kk s₁ m'' H1 h1 h2 aw1).elim
      | false =>
        simp only [Bool.false_eq_true, if_false] at hq ⊢
        exact wpAny_bind (wpAny_rule (wpAny_pure (hR false s₁ H1 aw1.inv hq)))
    · exact wpAny_bind (wpAny_rule (wpAny_pure (hR true s₁ H1 I1 (hEnd H1 e1))))
  | succ n ih =>
    intro i B m H s gs hgs hgo hm w aw
    refine codeAny_builtin F.entry_all_loop ?_
    rw [Around.under_plainId F.plain_all_loop _]
    show wpAny _ A.in1 (pyNext (.ref a) >>= _) _ _ s
    refine wpAny_bind (next_gx (A := A.in1) hh hroom hga hgs hgo hm w aw (fun v s₁ gs' i' m' y H1 hgs' r aw1 yl kk => ?_) fun s₁ H1 I1 e1 => ?_)
    · obtain ⟨c, rfl, hq⟩ := hYl i' m' y H1 yl
      obtain rfl : v = .bool c := r
      refine wpAny_bind (wpAny_holding (wpAny_truthy_bool ?_))
      refine wpAny_bind (wpAny_letGo ?_)
      cases c with
      | true =>
        obtain ⟨m'', h1, h2⟩ := hq
        simp only [if_true]
        exact wpAny_pure ⟨plainId_quiet F.plain_all_loop _, ih (i' + 1) m' m'' H1 s₁ gs' hgs' kk h1 h2 aw1⟩
      | false =>
        simp only [Bool.false_eq_true, if_false] at hq ⊢
        exact wpAny_bind (wpAny_rule (wpAny_pure (hR false s₁ H1 aw1.inv hq)))
    · exact wpAny_bind (wpAny_rule (wpAny_pure (hR true s₁ H1 I1 (hEnd H1 e1))))
theorem any_gx {R : Result → Shared → Prop} {a : Addr} {g : Nat} (hh : A.handled = none) (hroom : A.depth < recursionLimit) (hga : ∀ σ' H' s', Inv G pins σ' H' s' → s'.heap.IsGen a g) (Qf : Bool → Hp → Prop)
    (hEnd : ∀ H, End H → Qf false H) (hYl : ∀ i m y H, Yl i m y H → ∃ c, y = .bl c ∧ if c = true then Qf true H else ∃ m', m' < m ∧ W (i + 1) m' H)
    (hR : ∀ c s' H', Inv G pins σ H' s' → Qf c H' → R (.ok (.ret (.bool c))) s') :
    ∀ (n i B m : Nat) (H : Hp) (s : Shared) (gs : GenState), s.gens[g]? = some gs → Asl G pins σ fp tn W End Yl A.in1.in1 n i B gs → m < B → W i m H → Aw G pins σ fp tn i H s →
      codeAny (model G.prog G.w) A (.builtin "any.loop" ⟨[.ref a], []⟩) R s := by
  intro n
  induction n with
  | zero =>
    intro i B m H s gs hgs hgo hm w aw
    refine codeAny_builtin F.entry_any_loop ?_
    rw [Around.under_plainId F.plain_any_loop _]
    show wpAny _ A.in1 (pyNext (.ref a) >>= _) _ _ s
    refine wpAny_bind (next_gx (A := A.in1) hh hroom hga hgs hgo hm w aw (fun v s₁ gs' i' m' y H1 hgs' r aw1 yl kk => ?_) fun s₁ H1 I1 e1 => ?_)
    · obtain ⟨c, rfl, hq⟩ := hYl i' m' y H1 yl
      obtain rfl : v = .bool c := r
      refine wpAny_bind (wpAny_holding (wpAny_truthy_bool ?_))
      refine wpAny_bind (wpAny_letGo ?_)
      cases c with
      | false =>
        obtain ⟨m'', h1, h2⟩ := hq
        exact (kk s₁ m'' H1 h1 h2 aw1).elim
      | true =>
        simp only [if_true] at hq ⊢
        exact wpAny_bind (wpAny_rule (wpAny_pure (hR true s₁ H1 aw1.inv hq)))
    · exact wpAny_bind (wpAny_rule (wpAny_pure (hR false s₁ H1 I1 (hEnd H1 e1))))
  | succ n ih =>
    intro i B m H s gs hgs hgo hm w aw
    refine codeAny_builtin F.entry_any_loop ?_
    rw [Around.under_plainId F.plain_any_loop _]
    show wpAny _ A.in1 (pyNext (.ref a) >>= _) _ _ s
    refine wpAny_bind (next_gx (A := A.in1) hh hroom hga hgs hgo hm w aw (fun v s₁ gs' i' m' y H1 hgs' r aw1 yl kk => ?_) fun s₁ H1 I1 e1 => ?_)
    · obtain ⟨c, rfl, hq⟩ := hYl i' m' y H1 yl
      obtain rfl : v = .bool c := r
      refine wpAny_bind (wpAny_holding (wpAny_truthy_bool ?_))
      refine wpAny_bind (wpAny_letGo ?_)
      cases c with
      | false =>
        obtain ⟨m'', h1, h2⟩ := hq
        simp only [Bool.false_eq_true, if_false]
        exact wpAny_pure ⟨plainId_quiet F.plain_any_loop _, ih (i' + 1) m' m'' H1 s₁ gs' hgs' kk h1 h2 aw1⟩
      | true =>
        simp only [if_true] at hq ⊢
        exact wpAny_bind (wpAny_rule (wpAny_pure (hR true s₁ H1 aw1.inv hq)))
    · exact wpAny_bind (wpAny_rule (wpAny_pure (hR false s₁ H1 I1 (hEnd H1 e1))))
end
theorem over_gen {A : Around} {e : Expr} {cs : List Comprehension} {sc : Scope} {p : Pos} {i v : Value} {env : Env} : A.over (.compLoop (.GeneratorExp e cs sc p) 0 i v env) [] = A.deeper env := by
  first
    | rfl
    | (obtain ⟨hd, d, fr, gs, u⟩ := A; simp [Around.over, Around.deeper, marksOver, frameCount, unitsOf, envsOf, guardsOf, pushEnvs, pushGuards, Code.envs, Code.env?, Code.isFrame, Code.guards, Code.isGuard, Code.weight, Code.frames, Code.isCreation, Code.isCaller, Code.cUnits])
theorem room_gen {k : Nat} {A : Around} (r : Room (k + 1) A) (env : Env) : Room k (A.in1.in1.deeper env) :=
  ⟨r.hd, by have := r.dp; show A.depth + 1 + 3 * k + 5 < _; omega, by have := r.un; show A.units + 1 + 1 + 3 + 16 * k + 200 < _; omega⟩
theorem wipe2 (σ : L2.St) (vs : List Nat) : L2.wipe (L2.wipe σ vs) vs = L2.wipe σ vs := by
  have key : ∀ (ws : List Nat), (∀ i ∈ ws, i ∈ vs) → L2.wipe (L2.wipe σ vs) ws = L2.wipe σ vs := by
    intro ws
    induction ws with
    | nil => intro _; rfl
    | cons w ws ih =>
      intro h
      show (L2.wipe (L2.wipe σ vs) ws).set w none = _
      rw [ih fun i hi => h i (List.mem_cons_of_mem _ hi)]
      apply List.ext_getElem?
      intro j
      by_cases hj : w = j
      · subst hj
        by_cases hl : w < (L2.wipe σ vs).length
        · rw [List.getElem?_set_self hl]
          cases e : (L2.wipe σ vs)[w]? with
          | none => rw [List.getElem?_eq_none_iff] at e; omega
          | some x =>
            cases x with
            | none => rfl
            | some v => exact absurd (h w (List.mem_cons_self ..)) (wipe_some e).2
        · rw [List.getElem?_eq_none (by simpa using hl), List.getElem?_eq_none (by omega)]
      · rw [List.getElem?_set_ne hj]
  exact key vs fun _ h => h

/-- a generator that has not begun stands at a -/
structure Made (X : Cx) (pins : List (Addr × Obj)) (σ : L2.St) (elt tg iter : Expr) (ifs : List Expr) (scope : Scope) (pos : Pos) (vs : List Nat) (J : It) (H2 : Hp) (a : Addr) (s5 : Shared) : Prop where
  ex : ∃ (s4 : Shared) (fp : List Addr) (it : Addr) (tn : Nat → Heap → Prop) (code : Value) (g : Nat) (go : Obj),
    Turn X.prog X.w X.K tg J fp it tn ∧ s5.gens[g]? = some (.fresh (.compStart (.GeneratorExp elt [⟨tg, iter, ifs, 0⟩] scope pos) 0 (.ref it) .none (genEnv scope (cloFrom X.env.cells scope.names []) s4.heap.objs.size code builtinsNs X.env))) ∧
    a ∉ fp ∧ (∀ h : Heap, h.get? a = some go → h.IsGen a g) ∧
    (∀ A : Around, A.handled = none → A.frames = some (genEnv scope (cloFrom X.env.cells scope.names []) s4.heap.objs.size code builtinsNs X.env :: X.stack) →
      Aw (gex X s4 H2 (genEnv scope (cloFrom X.env.cells scope.names []) s4.heap.objs.size code builtinsNs X.env) fp A) [(a, go)] (L2.wipe σ vs) fp tn 0 H2 s5) ∧
    ∀ A σ' H' s', Inv (gex X s4 H2 (genEnv scope (cloFrom X.env.cells scope.names []) s4.heap.objs.size code builtinsNs X.env) fp A) [(a, go)] σ' H' s' → Inv X pins σ H' s'
section
variable {X : Cx} {pins : List (Addr × Obj)} {σ : L2.St} {H : Hp} {s : Shared}
theorem gen_made {c P : Addr} {elt tg iter : Expr} {ifs : List Expr} {scope : Scope} {pos : Pos} {own : List (Str × Nat)} {wi : TI} {k : Nat} {Q' : Value → Shared → Prop} {Rr : It → Hp → Prop}
    (hr : Room k X.A) (TB : GxR.TabB X.base X.mg c P) (hcode : X.env.code = .ref c) (hi : PI X tg iter wi) (ok : BlkOk X.N X.env.scope scope own) (nc : ∀ y ∈ scope.names, y.2 ≠ .cell) (hN : X.N.Nodup)
    (hco : scope.isCoroutine = false) (hdot : scope.names.lookup (".0" : Str) = some NameKind.local) (hs : ∀ v, genFold iter X.env v = pure v) (I : Inv X pins σ H s)
    (h : wi σ H fun J H1 => GxR.TabG H1 P ∧ Rr J H1)
    (hQ : ∀ J H1 H2 a s5, Rr J H1 → GxR.Tabbed P H1 H2 → Made X pins σ elt tg iter ifs scope pos (own.map (·.2)) J H2 a s5 → Q' (.ref a) s5) :
    wpAny (model X.prog X.w) X.A (eval (.GeneratorExp elt [⟨tg, iter, ifs, 0⟩] scope pos) X.env) Q' X.xe s := by
  have hfree : ∀ y ∈ scope.names, y.2 = .free → ∃ c, X.env.cells.lookup y.1 = some c := fun y hy e => by
    rcases ok.free y hy e with k | k
    · exact I.ok.has _ (.inl k)
    · exact I.ok.has _ (.inr k)
  refine wpAny_GeneratorExp_make hco (closure_ok hfree) nc hdot ok.kind hr.depth ?_ hs
  refine thn (hi.run pins s σ H _ I h) fun xv s1 hx => thn hx fun itv s2 h2 => ?_
  obtain ⟨it, fp, tn, J, H1, e, I2, T, st2, f2, ⟨ps, hP, ht⟩, q⟩ := h2
  subst e
  refine ⟨I2.nolimit, ?_⟩
  have hPs : s2.heap.get? P = some { cls := .none, data := .fields ps } := I2.hok P _ hP
  have cd : PySem.W.CodeHd s2.heap c P := TB.code.keeps fun b u e => I2.bk b u e
  have cont : ∀ (code : Value) (h3 : Heap) (tk : Nat) (ps' : Array Value), Heap.ExtBut P s2.heap h3 → s2.heap.objs.size ≤ h3.objs.size → h3.get? P = some { cls := .none, data := .fields ps' } → (∃ more, ps' = ps ++ more) → TriplesOk ps'.toList →
      wpAny (model X.prog X.w) X.A (builtinsFor X.env.globals X.env.builtins) (fun bi s₄ =>
        ∀ h', h'.Ns s₄.heap.objs.size (fun y => if y = ".0" then some (.ref it) else none) → Heap.SameBut s₄.heap.objs.size (s₄.heap.push { cls := .type "frame", data := .dict #[] }) h' →
          Q' (.ref h'.objs.size) { s₄ with
            gens := s₄.gens.push (.fresh (.compStart (.GeneratorExp elt [⟨tg, iter, ifs, 0⟩] scope pos) 0 (.ref it) .none (genEnv scope (cloFrom X.env.cells scope.names []) s₄.heap.objs.size code bi X.env))),
            toks := s₄.toks + 1 + 1 + 1,
            heap := h'.push { cls := .type "generator", data := .fields #[.int s₄.gens.size 0, .str "<genexpr>" (s₄.toks + 1), .str (X.env.qual ++ "<genexpr>") (s₄.toks + 1 + 1)] } }) X.xe { s2 with heap := h3, toks := tk } := by
    intro code h3 tk ps' hx hsz hP3 ⟨more, hmore⟩ ht3
    subst hmore
    obtain ⟨bm, ob, e1, e2, e3, e4, e5, e6, e7, e8⟩ := TB.bm
    have keep3 : ∀ b u, b ≠ P → s2.heap.get? b = some u → h3.get? b = some u := fun b u hb e => hx b u hb e
    have I3 : Inv X pins σ (upd H1 P (.tbl (ps ++ more))) { s2 with heap := h3, toks := tk } :=
      GxR.inv_tab (g' := s2.gens) (d' := s2.drawn) I2 hP (fun b o hb e => keep3 b o hb e) hP3 I2.bare
    have nP : ∀ b, H1 b = none → (upd H1 P (.tbl (ps ++ more))) b = none := fun b e => by
      rw [upd_ne fun z => by rw [z, hP] at e; cases e]; exact e
    refine wpAny_builtinsFor (m := X.mg) (by rw [I2.ok.glob]; exact (I2.mod.glob.keeps I2.bk).extBut hx TB.gP) e1 e2 (keep3 _ _ e4 (I2.bk _ _ e5)) e6 e7 e8 ?_
    intro h' hn hs'
    have hsz' : h'.objs.size = h3.objs.size + 1 := by rw [hs'.1, Heap.size_push]
    have flt : ∀ b ∈ fp, b < s2.heap.objs.size := fun b hb => by
      obtain ⟨o, e, _⟩ := T.obj _ _ st2 b hb
      exact Heap.lt_size e
    have fneP : ∀ b ∈ fp, b ≠ P := fun b hb z => by
      have := (f2 b hb).1
      rw [z, hP] at this; cases this
    have f3 : ∀ b ∈ fp, FpOk X pins (upd H1 P (.tbl (ps ++ more))) b := fun b hb => ⟨nP b (f2 b hb).1, (f2 b hb).2⟩
    have kp' : ∀ b o, h3.get? b = some o → h'.get? b = some o := fun b o e => hs'.extBut b o (Nat.ne_of_lt (Heap.lt_size e)) (Heap.get?_push_of_some _ e)
    refine hQ J H1 _ _ _ q ⟨⟨ps ++ more, upd_same, ht3⟩, fun b hb => upd_ne hb⟩ ⟨{ s2 with heap := h3, toks := tk }, fp, it, tn, code, s2.gens.size, { cls := .type "generator", data := .fields #[.int s2.gens.size 0, .str "<genexpr>" (tk + 1), .str (X.env.qual ++ "<genexpr>") (tk + 1 + 1)] }, T, Array.getElem?_push_size .., fun hb => ?_, fun h e => ⟨_, _, _, e, rfl, rfl, rfl⟩, fun A hA hfr => ?_, fun A σ' H' s' I6 => ?_⟩
    · have := flt _ hb
      rw [hsz'] at this
      exact absurd (Nat.lt_of_lt_of_le this (Nat.le_succ_of_le hsz)) (Nat.lt_irrefl _)
    · have I4 := gen_inv (own := own) (fp := fp) (A := A) (code := code) (it := .ref it) I3 ok nc hN (fun b hb => ⟨f3 b hb, Nat.lt_of_lt_of_le (flt b hb) hsz⟩) hA hfr hn hs'
      have I5 := inv_gens (s' := { s2 with
            gens := s2.gens.push (.fresh (.compStart (.GeneratorExp elt [⟨tg, iter, ifs, 0⟩] scope pos) 0 (.ref it) .none (genEnv scope (cloFrom X.env.cells scope.names []) h3.objs.size code builtinsNs X.env))),
            toks := tk + 1 + 1 + 1,
            heap := h'.push { cls := .type "generator", data := .fields #[.int s2.gens.size 0, .str "<genexpr>" (tk + 1), .str (X.env.qual ++ "<genexpr>") (tk + 1 + 1)] } }) I4 (fun b o e => Heap.get?_push_of_some _ e) rfl (AllBare.push I2.bare rfl)
      refine ⟨I5.pins_of fun p hp => ?_, ?_, fun b hb => nP b (f2 b hb).1⟩
      · rw [List.mem_singleton.mp hp]
        refine ⟨Heap.get?_push_size _ rfl, I4.hok.fresh (Nat.le_refl _), ?_, I4.nofs (Nat.le_refl _), fun v e => by cases e⟩
        show h'.objs.size ≠ h3.objs.size
        omega
      · exact T.keep _ _ _ st2 fun b hb o e => Heap.get?_push_of_some _ (kp' b o (keep3 b o (fneP b hb) e))
    · exact I3.call' (ch := fp) I6.os I6.base I6.hok I6.bare fun b hb => ⟨(f3 b hb).2.2.2.1, (f3 b hb).2.1, (f3 b hb).2.2.2.2.1, (f3 b hb).2.2.2.2.2⟩
  cases hf : codeAmong pos ps.toList with
  | none =>
    refine wpAny_genexprCodeX hcode (cd.code hPs ht) (cd.tab hPs) hf fun c' h' tk hx hge hlt hco' _ htab' _ => ?_
    obtain ⟨o1, vs, f1, tf, fl, tg, inF, tx, tt, op, _, _, _, _, _, _, _, _, _, htr, _⟩ := hco'
    exact cont _ h' tk _ hx (Nat.le_trans hge (Nat.le_of_lt hlt)) htab'.2 ⟨_, rfl⟩ htr
  | some cv =>
    refine wpAny_genexprCode_hit hcode (cd.code hPs ht) hf ?_
    exact cont cv s2.heap s2.toks ps (Heap.ExtBut.refl _ _) (Nat.le_refl _) hPs ⟨#[], by simp⟩ ht
/-- the turns over which all, any go -/
def tTurns (vs : List Nat) (J : It) (g : TG) (tt : TT) (te : TE) (σ : L2.St) (H2 : Hp) (End : Hp → Prop) (Yv : (Hp → Prop) → V → Hp → Prop) : Prop :=
  ∃ W : Nat → Nat → Hp → Prop, (∃ m, W 0 m H2) ∧ ∀ i m H, W i m H → (J.stop i H ∧ End H) ∨ (J.go i H ∧ ∀ x H', J.yld i H x H' → g x (L2.wipe σ vs) H' fun σ2 H3 => L2.wipe σ2 vs = L2.wipe σ vs ∧ tt σ2 H3 fun b H4 =>
    if b = true then te σ2 H4 fun y H5 => Yv (fun H6 => ∃ m', m' < m ∧ W (i + 1) m' H6) y H5 else ∃ m', m' < m ∧ W (i + 1) m' H4)
def tAllG (P : Addr) (wi : TI) (g : TG) (tt : TT) (te : TE) (vs : List Nat) : TE := fun σ H Q => wi σ H fun J H1 => GxR.TabG H1 P ∧ ∀ H2, GxR.Tabbed P H1 H2 →
  tTurns vs J g tt te σ H2 (Q (.bl true)) fun K y H => ∃ c, y = .bl c ∧ if c = true then K H else Q (.bl false) H
def tAnyG (P : Addr) (wi : TI) (g : TG) (tt : TT) (te : TE) (vs : List Nat) : TE := fun σ H Q => wi σ H fun J H1 => GxR.TabG H1 P ∧ ∀ H2, GxR.Tabbed P H1 H2 →
  tTurns vs J g tt te σ H2 (Q (.bl false)) fun K y H => ∃ c, y = .bl c ∧ if c = true then Q (.bl true) H else K H
section
variable {elt tg iter : Expr} {ifs : List Expr} {scope : Scope} {own : List (Str × Nat)} {gpos p pos : Pos} {wi : TI} {g : TG} {tt : TT} {te : TE} {c P : Addr} {k : Nat}
theorem pe_allG (hc : X.calm = true) (hr : Room (k + 1) X.A) (hgl : Gl X "all") (hm : X.mg "all" = none) (TB : GxR.TabB X.base X.mg c P) (hcode : X.env.code = .ref c) (hi : PI X tg iter wi) (ok : BlkOk X.N X.env.scope scope own) (nc : ∀ y ∈ scope.names, y.2 ≠ .cell) (hN : X.N.Nodup)
    (hco : scope.isCoroutine = false) (hdot : scope.names.lookup (".0" : Str) = some NameKind.local)
    (hg : ∀ s H C cl code fp A, Room k A → PG (gex X s H (genEnv scope cl C code builtinsNs X.env) fp A) tg g) (ht : ∀ s H C cl code fp A, Room k A → PTs (gex X s H (genEnv scope cl C code builtinsNs X.env) fp A) ifs tt)
    (he : ∀ s H C cl code fp A, Room k A → PE (gex X s H (genEnv scope cl C code builtinsNs X.env) fp A) elt te)
    (hs : ∀ v, genFold iter X.env v = pure v := by intro _; rfl)
    (hE : starEach [.GeneratorExp elt [⟨tg, iter, ifs, 0⟩] scope gpos] X.env = (false, eval (.GeneratorExp elt [⟨tg, iter, ifs, 0⟩] scope gpos) X.env) :: starEach [] X.env := by rfl)
    (hb : bootBuiltins "all" = some (.builtin "all") := by decide +kernel) :
    PE X (.Call (.Name "all" p) [.GeneratorExp elt [⟨tg, iter, ifs, 0⟩] scope gpos] [] pos) (tAllG P wi g tt te (own.map (·.2))) := by
  refine ⟨fun pins s σ H Q I h => ?_⟩
  refine wpAny_Call_Name_kw (ld_blt I hgl hm hb ?_)
  refine PyProof.Rows.callWith_builtin1 ?_ hE (by rfl)
  rw [hE]
  show wpAny _ _ (spliced ((false, eval (.GeneratorExp elt [⟨tg, iter, ifs, 0⟩] scope gpos) X.env) :: backTo pos (starEach [] X.env))) _ _ s
  refine Calls.spliced_cons (gen_made hr TB hcode hi ok nc hN hco hdot hs I h fun J H1 H2 a s5 hR tb M => ?_)
  obtain ⟨W, ⟨m0, w0⟩, turn⟩ := hR H2 tb
  obtain ⟨s4, fp, it, tn, code, gn, go, T, hgs, haf, hgen, aw, back⟩ := M.ex
  have aw' := aw (X.A.in1.in1.deeper (genEnv scope (cloFrom X.env.cells scope.names []) s4.heap.objs.size code builtinsNs X.env)) hr.hd (Around.frames_deeper I.ok.frames)
  refine Calls.spliced_nil ?_
  refine call_function_tree F.kind_all F.plain_all F.entry_all (F.args_all1 _) ?_
  unfold Builtin.«all»
  refine wpAny_bind (m := oneArg "all" _) (wpAny_pure ?_)
  have isg : ∀ A σ' H' s', Inv (gex X s4 H2 (genEnv scope (cloFrom X.env.cells scope.names []) s4.heap.objs.size code builtinsNs X.env) fp A) [(a, go)] σ' H' s' → s'.heap.IsGen a gn := fun A σ' H' s' I' =>
    hgen _ (I'.pin (a, go) (by simp)).1
  refine wpAny_bind (wpAny_pyIter_gen (isg _ _ _ _ aw'.inv) ?_)
  refine wpAny_pure ⟨plainId_quiet F.plain_all_loop _, ?_⟩
  refine all_gx (G := gex X s4 H2 (genEnv scope (cloFrom X.env.cells scope.names []) s4.heap.objs.size code builtinsNs X.env) fp (X.A.in1.in1.deeper (genEnv scope (cloFrom X.env.cells scope.names []) s4.heap.objs.size code builtinsNs X.env)))
    (A := X.A) (W := W) (End := Q (.bl true)) (Yl := fun i m y H => ∃ c, y = .bl c ∧ if c = true then ∃ m', m' < m ∧ W (i + 1) m' H else Q (.bl false) H) hr.hd hr.depth (isg _) (fun b H => Q (.bl b) H) (fun _ q => q) (fun _ _ _ _ q => q)
    (fun c s' H' I' q => ⟨.bl c, H', back _ _ _ _ I', rfl, q⟩) (m0 + 1) 0 (m0 + 1) m0 H2 s5 _ hgs (fun s'' m' H'' hm' w' aw'' => ⟨rfl, ?_⟩) (Nat.lt_succ_self _) w0 aw'
  have rk := room_gen hr (genEnv scope (cloFrom X.env.cells scope.names []) s4.heap.objs.size code builtinsNs X.env)
  exact seg_gx0 (G := gex X s4 H2 (genEnv scope (cloFrom X.env.cells scope.names []) s4.heap.objs.size code builtinsNs X.env) fp (X.A.in1.in1.deeper (genEnv scope (cloFrom X.env.cells scope.names []) s4.heap.objs.size code builtinsNs X.env)))
    hc rfl rfl (fun p hp => by rw [List.mem_singleton.mp hp]; exact haf) rfl T (hg _ _ _ _ _ _ _ rk) (ht _ _ _ _ _ _ _ rk) (he _ _ _ _ _ _ _ rk) (wipe2 _ _) hco over_gen ⟨fun i m H w => turn i m H w⟩ hm' w' aw''
theorem pe_anyG (hc : X.calm = true) (hr : Room (k + 1) X.A) (hgl : Gl X "any") (hm : X.mg "any" = none) (TB : GxR.TabB X.base X.mg c P) (hcode : X.env.code = .ref c) (hi : PI X tg iter wi) (ok : BlkOk X.N X.env.scope scope own) (nc : ∀ y ∈ scope.names, y.2 ≠ .cell) (hN : X.N.Nodup)
    (hco : scope.isCoroutine = false) (hdot : scope.names.lookup (".0" : Str) = some NameKind.local)
    (hg : ∀ s H C cl code fp A, Room k A → PG (gex X s H (genEnv scope cl C code builtinsNs X.env) fp A) tg g) (ht : ∀ s H C cl code fp A, Room k A → PTs (gex X s H (genEnv scope cl C code builtinsNs X.env) fp A) ifs tt)
    (he : ∀ s H C cl code fp A, Room k A → PE (gex X s H (genEnv scope cl C code builtinsNs X.env) fp A) elt te)
    (hs : ∀ v, genFold iter X.env v = pure v := by intro _; rfl)
    (hE : starEach [.GeneratorExp elt [⟨tg, iter, ifs, 0⟩] scope gpos] X.env = (false, eval (.GeneratorExp elt [⟨tg, iter, ifs, 0⟩] scope gpos) X.env) :: starEach [] X.env := by rfl) :
    PE X (.Call (.Name "any" p) [.GeneratorExp elt [⟨tg, iter, ifs, 0⟩] scope gpos] [] pos) (tAnyG P wi g tt te (own.map (·.2))) := by
  refine ⟨fun pins s σ H Q I h => ?_⟩
  refine wpAny_Call_Name_kw (ld_blt I hgl hm boot_any ?_)
  refine PyProof.Rows.callWith_builtin1 ?_ hE (by rfl)
  rw [hE]
  show wpAny _ _ (spliced ((false, eval (.GeneratorExp elt [⟨tg, iter, ifs, 0⟩] scope gpos) X.env) :: backTo pos (starEach [] X.env))) _ _ s
  refine Calls.spliced_cons (gen_made hr TB hcode hi ok nc hN hco hdot hs I h fun J H1 H2 a s5 hR tb M => ?_)
  obtain ⟨W, ⟨m0, w0⟩, turn⟩ := hR H2 tb
  obtain ⟨s4, fp, it, tn, code, gn, go, T, hgs, haf, hgen, aw, back⟩ := M.ex
  have aw' := aw (X.A.in1.in1.deeper (genEnv scope (cloFrom X.env.cells scope.names []) s4.heap.objs.size code builtinsNs X.env)) hr.hd (Around.frames_deeper I.ok.frames)
  refine Calls.spliced_nil ?_
  refine call_function_tree F.kind_any F.plain_any F.entry_any (F.args_any1 _) ?_
  unfold Builtin.«any»
  refine wpAny_bind (m := oneArg "any" _) (wpAny_pure ?_)
  have isg : ∀ A σ' H' s', Inv (gex X s4 H2 (genEnv scope (cloFrom X.env.cells scope.names []) s4.heap.objs.size code builtinsNs X.env) fp A) [(a, go)] σ' H' s' → s'.heap.IsGen a gn := fun A σ' H' s' I' =>
    hgen _ (I'.pin (a, go) (by simp)).1
  refine wpAny_bind (wpAny_pyIter_gen (isg _ _ _ _ aw'.inv) ?_)
  refine wpAny_pure ⟨plainId_quiet F.plain_any_loop _, ?_⟩
  refine any_gx (G := gex X s4 H2 (genEnv scope (cloFrom X.env.cells scope.names []) s4.heap.objs.size code builtinsNs X.env) fp (X.A.in1.in1.deeper (genEnv scope (cloFrom X.env.cells scope.names []) s4.heap.objs.size code builtinsNs X.env)))
    (A := X.A) (W := W) (End := Q (.bl false)) (Yl := fun i m y H => ∃ c, y = .bl c ∧ if c = true then Q (.bl true) H else ∃ m', m' < m ∧ W (i + 1) m' H) hr.hd hr.depth (isg _) (fun b H => Q (.bl b) H) (fun _ q => q) (fun _ _ _ _ q => q)
    (fun c s' H' I' q => ⟨.bl c, H', back _ _ _ _ I', rfl, q⟩) (m0 + 1) 0 (m0 + 1) m0 H2 s5 _ hgs (fun s'' m' H'' hm' w' aw'' => ⟨rfl, ?_⟩) (Nat.lt_succ_self _) w0 aw'
  have rk := room_gen hr (genEnv scope (cloFrom X.env.cells scope.names []) s4.heap.objs.size code builtinsNs X.env)
  exact seg_gx0 (G := gex X s4 H2 (genEnv scope (cloFrom X.env.cells scope.names []) s4.heap.objs.size code builtinsNs X.env) fp (X.A.in1.in1.deeper (genEnv scope (cloFrom X.env.cells scope.names []) s4.heap.objs.size code builtinsNs X.env)))
    hc rfl rfl (fun p hp => by rw [List.mem_singleton.mp hp]; exact haf) rfl T (hg _ _ _ _ _ _ _ rk) (ht _ _ _ _ _ _ _ rk) (he _ _ _ _ _ _ _ rk) (wipe2 _ _) hco over_gen ⟨fun i m H w => turn i m H w⟩ hm' w' aw''
end
end

/-! ### tuple -/
section
variable {G : Cx} {pins : List (Addr × Obj)} {σ : L2.St} {fp : List Addr} {tn : Nat → Heap → Prop} {W : Nat → Nat → Hp → Prop} {End : Hp → Prop} {Yl : Nat → Nat → V → Hp → Prop} {A : Around}
theorem fresh_fp {s : Shared} {H : Hp} {i : Nat} (aw : Aw G pins σ fp tn i H s) {S : Addr} {u : HO} (h : H S = some u) : S ∉ fp := fun z => by rw [aw.fp S z] at h; cases h
/-- the list at S takes one more -/
theorem aw_push {i : Nat} {H : Hp} {s : Shared} {S : Addr} {acc : List V} {y : V} {v : Value} (hkeep : ∀ i h h', tn i h → (∀ b ∈ fp, ∀ o, h.get? b = some o → h'.get? b = some o) → tn i h') (aw : Aw G pins σ fp tn i H s) (hS : H S = some (.lst acc)) (hz : acc.length < sizeLine) (r : RelV y v)
    {h' : Heap} {its : List Value} {n : Nat} (e : s.heap.get? S = some { cls := .type "list", data := .seq its.toArray n }) (ri : Vals acc its) (hh : ∀ b u, b ≠ S → s.heap.get? b = some u → h'.get? b = some u) (ho : h'.get? S = some { cls := .type "list", data := .seq (its ++ [v]).toArray (n + 1) }) :
    Aw G pins σ fp tn i (upd H S (.lst (acc ++ [y]))) { s with heap := h' } :=
  ⟨aw.inv.write (t' := s.toks) (by rw [hS]; trivial) (.inl rfl) hh ⟨_, ho⟩ ⟨by rw [List.length_append]; exact hz, its ++ [v], n + 1, ri.append (.cons r .nil), ho⟩,
    hkeep _ _ _ aw.st fun b hb o eo => hh b o (fun z => fresh_fp aw hS (z ▸ hb)) eo, fun b hb => by
      have n : b ≠ S := fun z => fresh_fp aw hS (z ▸ hb)
      rw [upd_ne n]; exact aw.fp b hb⟩
theorem ext_gx {R : Result → Shared → Prop} {a : Addr} {g : Nat} (hh : A.handled = none) (hroom : A.depth < recursionLimit) (hga : ∀ σ' H' s', Inv G pins σ' H' s' → s'.heap.IsGen a g) (hkeep : ∀ i h h', tn i h → (∀ b ∈ fp, ∀ o, h.get? b = some o → h'.get? b = some o) → tn i h')
    (S : Addr) (res : Value) (hYl : ∀ i m y H, Yl i m y H → ∃ acc, H S = some (.lst acc) ∧ acc.length < sizeLine ∧ ∃ m', m' < m ∧ W (i + 1) m' (upd H S (.lst (acc ++ [y]))))
    (hR : ∀ s' H', Inv G pins σ H' s' → End H' → R (.ok (.ret res)) s') :
    ∀ (n i B m : Nat) (H : Hp) (s : Shared) (gs : GenState), s.gens[g]? = some gs → Asl G pins σ fp tn W End Yl A.in1.in1 n i B gs → m < B → W i m H → Aw G pins σ fp tn i H s →
      codeAny (model G.prog G.w) A (.builtin "list.extend.loop" ⟨[.ref S, .ref a, res], []⟩) R s := by
  intro n
  induction n with
  | zero =>
    intro i B m H s gs hgs hgo hm w aw
    refine codeAny_builtin F.entry_extend_loop ?_
    rw [Around.under_plainId F.plain_extend_loop _]
    show wpAny _ A.in1 (pyNext (.ref a) >>= _) _ _ s
    refine wpAny_bind (next_gx (A := A.in1) hh hroom hga hgs hgo hm w aw (fun v s₁ gs' i' m' y H1 hgs' r aw1 yl kk => ?_) fun s₁ H1 I1 e1 => ?_)
    · obtain ⟨acc, hS, hz, m'', h1, h2⟩ := hYl i' m' y H1 yl
      obtain ⟨hz', its, nn, ri, e⟩ := aw1.inv.hok S _ hS
      have e2 := Heap.get?_update_self (h := s₁.heap) (Obj.mapSeq (·.push v)) e rfl
      refine (kk _ m'' _ h1 h2 (aw_push hkeep aw1 hS hz r e ri (h' := s₁.heap.update S (Obj.mapSeq (·.push v))) (fun b u hb q => (Heap.get?_update_other _ _ (Ne.symm hb)).trans q) ?_)).elim
      rw [e2]
      simp [Obj.mapSeq]
    · exact wpAny_pure (hR s₁ H1 I1 e1)
  | succ n ih =>
    intro i B m H s gs hgs hgo hm w aw
    refine codeAny_builtin F.entry_extend_loop ?_
    rw [Around.under_plainId F.plain_extend_loop _]
    show wpAny _ A.in1 (pyNext (.ref a) >>= _) _ _ s
    refine wpAny_bind (next_gx (A := A.in1) hh hroom hga hgs hgo hm w aw (fun v s₁ gs' i' m' y H1 hgs' r aw1 yl kk => ?_) fun s₁ H1 I1 e1 => ?_)
    · obtain ⟨acc, hS, hz, m'', h1, h2⟩ := hYl i' m' y H1 yl
      obtain ⟨hz', its, nn, ri, e⟩ := aw1.inv.hok S _ hS
      have hl := ri.length
      have e2 := Heap.get?_update_self (h := s₁.heap) (Obj.mapSeq (·.push v)) e rfl
      show wpAny _ A.in1 (updateSeq S (·.push v) >>= _) _ _ _
      refine wpAny_bind ?_
      refine wpAny_updateSeq e rfl (wpAny_pure ⟨plainId_quiet F.plain_extend_loop _, ?_⟩) (by rw [List.size_toArray]; omega) (by show (its.toArray.push v).size ≤ sizeLine + 1; rw [Array.size_push, List.size_toArray]; omega)
      refine ih (i' + 1) m' m'' _ { s₁ with heap := s₁.heap.update S (Obj.mapSeq (·.push v)) } gs' hgs' kk h1 h2 (aw_push hkeep aw1 hS hz r e ri (fun b u hb q => (Heap.get?_update_other _ _ (Ne.symm hb)).trans q) ?_)
      rw [e2]
      simp [Obj.mapSeq]
    · exact wpAny_pure (hR s₁ H1 I1 e1)
/-- all that it hands out, in a new list at S -/
theorem collect_gx {E : Value → Shared → Prop} {a : Addr} {g : Nat} {gs : GenState} {n B m : Nat} {H : Hp} {s : Shared} {Q : List Value → Shared → Prop} (hh : A.handled = none) (hroom : A.depth < recursionLimit) (hga : ∀ σ' H' s', Inv G pins σ' H' s' → s'.heap.IsGen a g)
    (hkeep : ∀ i h h', tn i h → (∀ b ∈ fp, ∀ o, h.get? b = some o → h'.get? b = some o) → tn i h') (hfp : ∀ b ∈ fp, b < s.heap.objs.size)
    (hYl : ∀ i m y H, Yl i m y H → ∃ acc, H s.heap.objs.size = some (.lst acc) ∧ acc.length < sizeLine ∧ ∃ m', m' < m ∧ W (i + 1) m' (upd H s.heap.objs.size (.lst (acc ++ [y])))) (hE : ∀ H, End H → ∃ acc, H s.heap.objs.size = some (.lst acc))
    (hgs : s.gens[g]? = some gs) (hgo : Asl G pins σ fp tn W End Yl A.in1.in1 n 0 B gs) (hm : m < B) (w : W 0 m (upd H s.heap.objs.size (.lst []))) (aw : Aw G pins σ fp tn 0 H s)
    (hQ : ∀ s' H' acc vs, Inv G pins σ H' s' → End H' → H' s.heap.objs.size = some (.lst acc) → Vals acc vs → vs.length ≤ sizeLine → Q vs s') : wpAny (model G.prog G.w) A (collect (.ref a)) Q E s := by
  have hSa : s.heap.objs.size ≠ a := fun e => by
    obtain ⟨o, _, _, ho, _⟩ := hga _ _ _ aw.inv
    exact Nat.ne_of_lt (Heap.lt_size ho) e.symm
  unfold collect
  refine wpAny_bind (wpAny_runValue (codeAny_builtin F.entry_proto_collect ?_))
  rw [Around.under_plainId F.plain_proto_collect _]
  show wpAny _ A.in1 (newList [] >>= fun l => again (.builtin "list.__iadd__" ⟨[l, .ref a], []⟩)) _ _ s
  refine wpAny_bind (wpAny_newObj_type ?_)
  refine wpAny_pure ⟨plainId_quiet F.plain_list_iadd _, codeAny_builtin F.entry_list_iadd ?_⟩
  rw [Around.under_plainId F.plain_list_iadd _]
  have hg1 := hga _ _ _ aw.inv
  have gty : ∀ {h : Heap}, (∀ b o, s.heap.get? b = some o → h.get? b = some o) → h.IsGen a g := fun {h} q => hg1.keeps q
  have k1 : ∀ b o, s.heap.get? b = some o → (s.heap.push { cls := .type "list", data := .seq ([] : List Value).toArray }).get? b = some o := fun b o e => Heap.get?_push_of_some _ e
  show wpAny _ A.in1 (Builtin.List.listExtendWith (.ref s.heap.objs.size) (.ref a) (.ref s.heap.objs.size)) _ _ _
  unfold Builtin.List.listExtendWith
  refine wpAny_bind (wpAny_typeOf (Heap.IsGen.typeIs (s := { s with heap := _ }) (gty k1)) ?_)
  have h1 : Builtin.List.listSameRef (.ref s.heap.objs.size) (.ref a) = false := by simp [Builtin.List.listSameRef, hSa]
  have h2 : (Value.type "generator" == Value.type "list") = false := by decide
  have h3 : (Value.type "generator" == Value.type "tuple") = false := by decide
  simp only [h1, h2, h3, Bool.or_false, Bool.false_eq_true, if_false]
  refine wpAny_bind (wpAny_pyIter_gen (s := { s with heap := _ }) (gty k1) ?_)
  refine wpAny_bind (wpAny_holding ?_)
  unfold Builtin.List.listLengthHint
  refine wpAny_bind (wpAny_specialOf (Heap.IsGen.typeIs (s := { s with heap := _ }) (gty k1)) F.gen_no_len ?_)
  show wpAny _ A.in1 (specialOf (Value.ref a) (Str.ofString "__length_hint__") >>= _) _ _ _
  refine wpAny_bind (wpAny_specialOf (Heap.IsGen.typeIs (s := { s with heap := _ }) (gty k1)) F.gen_no_hint ?_)
  refine wpAny_pure ?_
  show wpAny _ A.in1 (rule "list.extend.makes-room" >>= fun _ => Builtin.List.listTouch (.ref s.heap.objs.size) >>= fun _ =>
    again (.builtin "list.extend.loop" ⟨[.ref s.heap.objs.size, .ref a, .ref s.heap.objs.size], []⟩)) _ _ _
  refine wpAny_bind (wpAny_rule ?_)
  have hS₁ : (s.heap.push { cls := .type "list", data := .seq ([] : List Value).toArray }).get? s.heap.objs.size = some { cls := .type "list", data := .seq ([] : List Value).toArray } := Heap.get?_push_size _ rfl
  refine wpAny_bind ?_
  show wpAny _ A.in1 (updateSeq s.heap.objs.size (·.push .none) >>= fun _ => updateSeq s.heap.objs.size (·.pop)) _ _ _
  refine wpAny_bind (wpAny_updateSeq hS₁ rfl ?_)
  have hS₂ := Heap.get?_update_self (Obj.mapSeq (·.push Value.none)) hS₁ rfl
  refine wpAny_updateSeq hS₂ rfl ?_
  have hS₃ := Heap.get?_update_self (Obj.mapSeq (·.pop)) hS₂ rfl
  have oth : ∀ b o, s.heap.get? b = some o →
      (((s.heap.push { cls := .type "list", data := .seq ([] : List Value).toArray }).update s.heap.objs.size (Obj.mapSeq (·.push Value.none))).update s.heap.objs.size (Obj.mapSeq (·.pop))).get? b = some o :=
    fun b o e => (Heap.get?_update_other _ _ (Ne.symm (Nat.ne_of_lt (Heap.lt_size e)))).trans ((Heap.get?_update_other _ _ (Ne.symm (Nat.ne_of_lt (Heap.lt_size e)))).trans (k1 b o e))
  have aw2 : Aw G pins σ fp tn 0 (upd H s.heap.objs.size (.lst [])) { s with heap := ((s.heap.push { cls := .type "list", data := .seq ([] : List Value).toArray }).update s.heap.objs.size (Obj.mapSeq (·.push Value.none))).update s.heap.objs.size (Obj.mapSeq (·.pop)) } := by
    refine ⟨aw.inv.laid (t' := s.toks) oth (Nat.le_refl _) ⟨Nat.zero_le _, [], _, .nil, hS₃⟩, hkeep _ _ _ aw.st fun b _ o e => oth b o e, fun b hb => ?_⟩
    rw [upd_ne (Nat.ne_of_lt (hfp b hb))]; exact aw.fp b hb
  refine wpAny_pure ⟨plainId_quiet F.plain_extend_loop _, ext_gx (A := A) hh hroom hga hkeep s.heap.objs.size _ hYl (fun s' H' I' e' => ?_) n 0 B m _ _ gs hgs hgo hm w aw2⟩
  obtain ⟨acc, hS⟩ := hE H' e'
  obtain ⟨hz', its, nn, ri, e⟩ := I'.hok _ _ hS
  have hl := ri.length
  show wpAny _ A (load s.heap.objs.size >>= _) _ _ s'
  refine wpAny_bind (wpAny_load e ?_)
  refine wpAny_pure ?_
  show Q its.toArray.toList s'
  rw [List.toList_toArray]
  exact hQ s' H' acc its I' e' hS ri (by omega)

theorem code_tuple_gx {E : Value → Shared → Prop} {a : Addr} {g : Nat} {gs : GenState} {n B m : Nat} {H : Hp} {s : Shared} {Q₁ : Value → Shared → Prop} (hh : A.handled = none) (hroom : A.depth < recursionLimit) (hga : ∀ σ' H' s', Inv G pins σ' H' s' → s'.heap.IsGen a g)
    (hkeep : ∀ i h h', tn i h → (∀ b ∈ fp, ∀ o, h.get? b = some o → h'.get? b = some o) → tn i h') (hfp : ∀ b ∈ fp, b < s.heap.objs.size)
    (hYl : ∀ i m y H, Yl i m y H → ∃ acc, H s.heap.objs.size = some (.lst acc) ∧ acc.length < sizeLine ∧ ∃ m', m' < m ∧ W (i + 1) m' (upd H s.heap.objs.size (.lst (acc ++ [y])))) (hE : ∀ H, End H → ∃ acc, H s.heap.objs.size = some (.lst acc))
    (hgs : s.gens[g]? = some gs) (hgo : Asl G pins σ fp tn W End Yl A.in1.in1.in1 n 0 B gs) (hm : m < B) (w : W 0 m (upd H s.heap.objs.size (.lst []))) (aw : Aw G pins σ fp tn 0 H s)
    (hQ : ∀ s' H' acc vs, Inv G pins σ H' s' → End H' → H' s.heap.objs.size = some (.lst acc) → Vals acc vs → vs.length ≤ sizeLine → Q₁ (.ref s'.heap.objs.size) { s' with heap := s'.heap.push { cls := .type "tuple", data := .seq vs.toArray } }) :
    codeAny (model G.prog G.w) A (.call (.builtin "tuple.__new__") ⟨[.type "tuple", .ref a], []⟩) (wants Q₁ E) s := by
  refine codeAny_of_tree ?_
  show wpAny _ A.in1 (do checkBuiltinCall "tuple.__new__" ⟨[.type "tuple", .ref a], []⟩; again (.builtin "tuple.__new__" ⟨[.type "tuple", .ref a], []⟩)) _ _ s
  refine wpAny_bind (wpAny_of_eq (F.newCall_tuple_1 _) (wpAny_pure ⟨plainId_quiet F.plain_tuple_new _, codeAny_builtin F.entry_tuple_new ?_⟩))
  rw [Around.under_plainId F.plain_tuple_new _]
  have hsub := sub_tuple_self
  have hinit := init_tuple_lookup
  have hmh := madeHere_tuple
  have hTI : s.TypeIs (.ref a) "generator" := Heap.IsGen.typeIs (hga _ _ _ aw.inv)
  wp_walk using wpAny_typeOf hTI, collect_gx (A := A.in1) hh hroom hga hkeep hfp hYl hE hgs hgo hm w aw
  intro s' H' acc vs I' e' hS ri hl
  show wpAny _ _ (Builtin.Tuple.tupleExact vs.toArray >>= fun v => ret v) _ _ _
  unfold Builtin.Tuple.tupleExact
  refine wpAny_bind (wpAny_newObj_type ?_ (by show vs.toArray.size ≤ sizeLine; rw [List.size_toArray]; exact hl))
  exact wpAny_pure (hQ s' H' acc vs I' e' hS ri hl)
theorem call_tuple_gx {E : Value → Shared → Prop} {a : Addr} {g : Nat} {gs : GenState} {n B m : Nat} {H : Hp} {s : Shared} {Q : Value → Shared → Prop} (hh : A.handled = none) (hroom : A.depth < recursionLimit) (hga : ∀ σ' H' s', Inv G pins σ' H' s' → s'.heap.IsGen a g)
    (hkeep : ∀ i h h', tn i h → (∀ b ∈ fp, ∀ o, h.get? b = some o → h'.get? b = some o) → tn i h') (hfp : ∀ b ∈ fp, b < s.heap.objs.size)
    (hYl : ∀ i m y H, Yl i m y H → ∃ acc, H s.heap.objs.size = some (.lst acc) ∧ acc.length < sizeLine ∧ ∃ m', m' < m ∧ W (i + 1) m' (upd H s.heap.objs.size (.lst (acc ++ [y])))) (hE : ∀ H, End H → ∃ acc, H s.heap.objs.size = some (.lst acc))
    (hgs : s.gens[g]? = some gs) (hgo : Asl G pins σ fp tn W End Yl A.in1.in1.in1.in1 n 0 B gs) (hm : m < B) (w : W 0 m (upd H s.heap.objs.size (.lst []))) (aw : Aw G pins σ fp tn 0 H s)
    (hQ : ∀ s' H' acc vs, Inv G pins σ H' s' → End H' → H' s.heap.objs.size = some (.lst acc) → Vals acc vs → vs.length ≤ sizeLine → Q (.ref s'.heap.objs.size) { s' with heap := s'.heap.push { cls := .type "tuple", data := .seq vs.toArray } }) :
    wpAny (model G.prog G.w) A (call (.type "tuple") [.ref a]) Q E s := by
  refine callType_codes (Q₁ := fun obj s₁ => s₁.TypeIs obj "tuple" ∧ Q obj s₁) F.called_tuple (F.typeCall_tuple_1 _) F.entry_object_init
    (code_tuple_gx (A := A.in1) hh hroom hga hkeep hfp hYl hE hgs hgo hm w aw fun s' H' acc vs I' e' hS ri hl => ⟨⟨_, Heap.get?_push_size _ rfl, rfl⟩, hQ s' H' acc vs I' e' hS ri hl⟩) fun obj s₁ h₁ => ?_
  exact ⟨h₁.1, F.args_object_init_2 obj _, object_init_meets F.called_tuple.init.lookup F.called_tuple.made (by decide) G.prog G.w A.in1 _ s₁ ⟨h₁.1, rfl, h₁.2⟩⟩
end
theorem room_gen4 {k : Nat} {A : Around} (r : Room (k + 1) A) (env : Env) : Room k (A.in1.in1.in1.in1.deeper env) :=
  ⟨r.hd, by have := r.dp; show A.depth + 1 + 3 * k + 5 < _; omega, by have := r.un; show A.units + 1 + 1 + 1 + 1 + 3 + 16 * k + 200 < _; omega⟩
def tTupG (P : Addr) (wi : TI) (g : TG) (tt : TT) (te : TE) (vs : List Nat) : TE := fun σ H Q => wi σ H fun J H1 => GxR.TabG H1 P ∧ ∀ H2, GxR.Tabbed P H1 H2 → ∀ S, H2 S = none →
  tTurns vs J g tt te σ (upd H2 S (.lst [])) (fun H => ∃ acc, H S = some (.lst acc) ∧ ∀ T, H T = none → Q (.ref T) (upd H T (.tup acc))) fun K y H => ∃ acc, H S = some (.lst acc) ∧ acc.length < sizeLine ∧ K (upd H S (.lst (acc ++ [y])))
section
variable {X : Cx} {elt tg iter : Expr} {ifs : List Expr} {scope : Scope} {own : List (Str × Nat)} {gpos p pos : Pos} {wi : TI} {g : TG} {tt : TT} {te : TE} {c P : Addr} {k : Nat}
theorem pe_tupleG (hc : X.calm = true) (hr : Room (k + 1) X.A) (hgl : Gl X "tuple") (hm : X.mg "tuple" = none) (TB : GxR.TabB X.base X.mg c P) (hcode : X.env.code = .ref c) (hi : PI X tg iter wi) (ok : BlkOk X.N X.env.scope scope own) (nc : ∀ y ∈ scope.names, y.2 ≠ .cell) (hN : X.N.Nodup)
    (hco : scope.isCoroutine = false) (hdot : scope.names.lookup (".0" : Str) = some NameKind.local)
    (hg : ∀ s H C cl code fp A, Room k A → PG (gex X s H (genEnv scope cl C code builtinsNs X.env) fp A) tg g) (ht : ∀ s H C cl code fp A, Room k A → PTs (gex X s H (genEnv scope cl C code builtinsNs X.env) fp A) ifs tt)
    (he : ∀ s H C cl code fp A, Room k A → PE (gex X s H (genEnv scope cl C code builtinsNs X.env) fp A) elt te)
    (hs : ∀ v, genFold iter X.env v = pure v := by intro _; rfl)
    (hE : starEach [.GeneratorExp elt [⟨tg, iter, ifs, 0⟩] scope gpos] X.env = (false, eval (.GeneratorExp elt [⟨tg, iter, ifs, 0⟩] scope gpos) X.env) :: starEach [] X.env := by rfl)
    (hb : bootBuiltins "tuple" = some (.type "tuple") := by decide +kernel) :
    PE X (.Call (.Name "tuple" p) [.GeneratorExp elt [⟨tg, iter, ifs, 0⟩] scope gpos] [] pos) (tTupG P wi g tt te (own.map (·.2))) := by
  refine ⟨fun pins s σ H Q I h => ?_⟩
  refine wpAny_Call_Name_kw (ld_blt I hgl hm hb ?_)
  refine PyProof.Rows.callWith_type1 ?_ hE (by rfl)
  rw [hE]
  show wpAny _ _ (spliced ((false, eval (.GeneratorExp elt [⟨tg, iter, ifs, 0⟩] scope gpos) X.env) :: backTo pos (starEach [] X.env))) _ _ s
  refine Calls.spliced_cons (gen_made hr TB hcode hi ok nc hN hco hdot hs I h fun J H1 H2 a s5 hR tb M => ?_)
  obtain ⟨s4, fp, it, tn, code, gn, go, T, hgs, haf, hgen, aw, back⟩ := M.ex
  have aw' := aw (X.A.in1.in1.in1.in1.deeper (genEnv scope (cloFrom X.env.cells scope.names []) s4.heap.objs.size code builtinsNs X.env)) hr.hd (Around.frames_deeper I.ok.frames)
  obtain ⟨W, ⟨m0, w0⟩, turn⟩ := hR H2 tb s5.heap.objs.size (aw'.inv.hok.fresh (Nat.le_refl _))
  refine Calls.spliced_nil ?_
  have isg : ∀ A σ' H' s', Inv (gex X s4 H2 (genEnv scope (cloFrom X.env.cells scope.names []) s4.heap.objs.size code builtinsNs X.env) fp A) [(a, go)] σ' H' s' → s'.heap.IsGen a gn := fun A σ' H' s' I' =>
    hgen _ (I'.pin (a, go) (by simp)).1
  have rk := room_gen4 hr (genEnv scope (cloFrom X.env.cells scope.names []) s4.heap.objs.size code builtinsNs X.env)
  refine call_tuple_gx (G := gex X s4 H2 (genEnv scope (cloFrom X.env.cells scope.names []) s4.heap.objs.size code builtinsNs X.env) fp (X.A.in1.in1.in1.in1.deeper (genEnv scope (cloFrom X.env.cells scope.names []) s4.heap.objs.size code builtinsNs X.env)))
    (A := X.A) (W := W) (End := fun H => ∃ acc, H s5.heap.objs.size = some (.lst acc) ∧ ∀ T, H T = none → Q (.ref T) (upd H T (.tup acc))) (Yl := fun i m y H => ∃ acc, H s5.heap.objs.size = some (.lst acc) ∧ acc.length < sizeLine ∧ ∃ m', m' < m ∧ W (i + 1) m' (upd H s5.heap.objs.size (.lst (acc ++ [y]))))
    hr.hd hr.depth (isg _) T.keep (fun b hb => ?_) (fun _ _ _ _ q => q) (fun H ⟨acc, h1, _⟩ => ⟨acc, h1⟩) hgs (n := m0 + 1) (B := m0 + 1) (m := m0) (fun s'' m' H'' hm' w' aw'' => ⟨rfl, ?_⟩) (Nat.lt_succ_self _) w0 aw' (fun s' H' acc vs I' ⟨acc', h1, h2⟩ hS ri hl => ?_)
  · obtain ⟨o, e, _⟩ := T.obj _ _ aw'.st b hb
    exact Heap.lt_size e
  · exact seg_gx0 (G := gex X s4 H2 (genEnv scope (cloFrom X.env.cells scope.names []) s4.heap.objs.size code builtinsNs X.env) fp (X.A.in1.in1.in1.in1.deeper (genEnv scope (cloFrom X.env.cells scope.names []) s4.heap.objs.size code builtinsNs X.env)))
      hc rfl rfl (fun p hp => by rw [List.mem_singleton.mp hp]; exact haf) rfl T (hg _ _ _ _ _ _ _ rk) (ht _ _ _ _ _ _ _ rk) (he _ _ _ _ _ _ _ rk) (wipe2 _ _) hco over_gen ⟨fun i m H w => turn i m H w⟩ hm' w' aw''
  · rw [hS] at h1
    cases h1
    have IX := back _ _ _ _ I'
    exact ⟨.ref s'.heap.objs.size, upd H' s'.heap.objs.size (.tup acc), IX.laid (o := .tup acc) (t' := s'.toks) (fun b o e => Heap.get?_push_of_some _ e) (Nat.le_refl _) ⟨by have := ri.length; omega, vs, ri, _, Heap.get?_push_size _ rfl, rfl, _, rfl⟩, rfl, h2 _ (IX.hok.fresh (Nat.le_refl _))⟩
end
end GX

set_option Elab.async false
set_option linter.all false
set_option autoImplicit false
set_option maxRecDepth 100000
/-! DGd: generator expressions over data. -/
namespace DL
open PySem PySem.Spec PyProof.Rows L2
section
variable {X : Cx} {Tb : Addr → Prop} {mi : MI} {g : MG} {mt : MT} {me : ME} {us : List Nat}
theorem wipe_wipe (σ : St) (vs : List Nat) : L2.wipe (L2.wipe σ vs) vs = L2.wipe σ vs := GX.wipe2 σ vs
/-- the turns -/
theorem turns_read {W : Wd X.K Tb} {Oc : Addr → Prop} {H0 : Hp} {O : Addr → Prop} {H1 H2 : Hp} {σ : St} {e1 : DEnv} {J : It} {items : List D} {vs : List Nat} {End : Hp → Prop} {Yv : (Hp → Prop) → V → Hp → Prop} {Yd : D → Prop → Prop} (L : List D → Prop) (hus : ∀ i ∈ us, i ∈ vs)
    (F1 : FR W Oc H0 O H1 σ e1) (kp0 : Keep W H1 H2) (dr : Drain X.K W.Pl O H1 J items) (h0 : L items) (hn : ∀ H, Keep W H1 H → L [] → End H)
    (hc : ∀ d ds, L (d :: ds) → genTurn g mt me (hide (DL.wipe e1 vs)) Yd d (L ds))
    (hY : ∀ (ds : List D) (H : Hp) (d : D) (v : V) (Kk : Hp → Prop), Keep W H1 H → Rp W O H d v → Yd d (L ds) → (∀ H', Keep W H1 H' → L ds → Kk H') → Yv Kk v H) :
    GX.tTurns vs J (TGm X.K Tb g us) (TTm X.K Tb mt) (TEm X.K Tb me) σ H2 End Yv := by
  refine ⟨fun i m H => m = items.length - i ∧ i ≤ items.length ∧ Keep W H1 H ∧ L (items.drop i), ⟨_, rfl, Nat.zero_le _, kp0, by simpa using h0⟩, ?_⟩
  rintro i m H ⟨rfl, hle, kp, q2⟩
  have F2 := F1.keep kp
  have mv : Mv O H1 O H := Mv.of (kp.stab F1.zo)
  obtain ⟨dgo, dst⟩ := dr O H mv (fun p hp => F2.nO hp) i
  by_cases hlt : i < items.length
  · rw [List.drop_eq_getElem_cons hlt] at q2
    obtain ⟨go, yl⟩ := dgo items[i] (List.getElem?_eq_getElem hlt)
    refine .inr ⟨go, fun x H3 hy => ?_⟩
    obtain ⟨sm, rx⟩ := yl x H3 hy
    have kp3 : Keep W H1 H3 := kp.trans (Keep.same kp.1 sm)
    have F3 := F1.keep kp3
    have Fi : FR W O H3 O H3 (L2.wipe σ vs) (hide (DL.wipe e1 vs)) := F3.inner (O' := O) (fun a h => h) (fun a h => F3.dom a h) (fun j d v h1 h2 r => r) vs
    refine ⟨W, O, H3, O, _, items[i], _, Fi, rx, hc _ _ q2, fun H4 σ4 e4 F4 s4 w4 q4 => ⟨(w4 vs hus).trans (wipe_wipe σ vs), ?_⟩⟩
    refine ⟨W, O, H3, O, e4, _, F4, q4, fun H5 b e5 F5 s5 q5 => ?_⟩
    cases b with
    | true =>
      refine iteT ⟨W, O, H3, O, e5, _, F5, q5, fun H6 y dy e6 F6 s6 ry q6 => ?_⟩
      have kp6 : Keep W H1 H6 := kp3.trans F6.rt
      exact hY (items.drop (i + 1)) H6 dy y _ kp6 ry q6 fun H' k' l' => ⟨_, by omega, rfl, hlt, k', l'⟩
    | false => exact iteF ⟨_, by omega, rfl, hlt, kp3.trans F5.rt, q5⟩
  · have e : i = items.length := by omega
    subst e
    rw [List.drop_length] at q2
    exact .inl ⟨dst (Nat.le_refl _), hn H kp q2⟩
variable {elt tg iter : Expr} {ifs : List Expr} {scope : Scope} {own : List (Str × Nat)} {gpos p pos : Pos} {c Pt : Addr} {k : Nat} {vs : List Nat}
/-- the generator's frames -/
abbrev gxs (X : Cx) (scope : Scope) (s : Shared) (H : Hp) (C : Addr) (cl : List (Str × Addr)) (code : Value) (fp : List Addr) (A : Around) : Cx := GX.gex X s H (genEnv scope cl C code builtinsNs X.env) fp A
theorem tab_keep {W : Wd X.K Tb} {H1 H2 : Hp} (g : W.G H1) (hT : Tb Pt) (t : GxR.Tabbed Pt H1 H2) : Keep W H1 H2 :=
  ⟨W.tabs H1 H2 Pt g hT (fun b hb => t.2 b hb) t.1, fun a o h n => by rw [t.2 a fun z => n (by rw [z]; exact W.tz Pt hT)]; exact h⟩
theorem ev_allG (hc : X.calm = true) (hr : Room (k + 1) X.A) (hgl : Gl X "all") (hm : X.mg "all" = none) (hT : Tb Pt) (TB : GxR.TabB X.base X.mg c Pt) (hcode : X.env.code = .ref c) (hi : IV X Tb tg iter mi) (ok : BlkOk X.N X.env.scope scope own) (nc : ∀ y ∈ scope.names, y.2 ≠ .cell) (hN : X.N.Nodup)
    (hus : ∀ i ∈ us, i ∈ own.map (·.2)) (hco : scope.isCoroutine = false) (hdot : scope.names.lookup (".0" : Str) = some NameKind.local)
    (hg : ∀ s H C cl code fp A, Room k A → GV (gxs X scope s H C cl code fp A) Tb tg g us) (ht : ∀ s H C cl code fp A, Room k A → FTV (gxs X scope s H C cl code fp A) Tb ifs mt)
    (he : ∀ s H C cl code fp A, Room k A → EV (gxs X scope s H C cl code fp A) Tb elt me) (hvs : own.map (·.2) = vs := by rfl)
    (hs : ∀ v, genFold iter X.env v = pure v := by intro _; rfl)
    (hE : starEach [.GeneratorExp elt [⟨tg, iter, ifs, 0⟩] scope gpos] X.env = (false, eval (.GeneratorExp elt [⟨tg, iter, ifs, 0⟩] scope gpos) X.env) :: starEach [] X.env := by rfl) :
    EV X Tb (.Call (.Name "all" p) [.GeneratorExp elt [⟨tg, iter, ifs, 0⟩] scope gpos] [] pos) (eAllG mi g mt me vs) := by
  subst hvs
  obtain ⟨wi, pi, hi⟩ := hi.ex
  refine ⟨_, GX.pe_allG (g := TGm X.K Tb g us) (tt := TTm X.K Tb mt) (te := TEm X.K Tb me) hc hr hgl hm TB hcode pi ok nc hN hco hdot (fun s H C cl code fp A r => (hg s H C cl code fp A r).pg) (fun s H C cl code fp A r => (ht s H C cl code fp A r).pt) (fun s H C cl code fp A r => (he s H C cl code fp A r).pe) hs hE,
    fun W Oc H0 O H σ env Q P F hm hq => ?_⟩
  refine hi W Oc H0 O H σ env _ _ F hm fun H1 J items e1 F1 s1 dr q1 => ⟨W.tab H1 Pt F1.g hT, fun H2 tb => ?_⟩
  refine turns_read (Yd := yAll fun k => P (.bl k) e1) (allLoop g mt me (hide (DL.wipe e1 (own.map fun (q : Str × Nat) => q.2))) fun k => P (.bl k) e1) hus F1 (tab_keep F1.g hT tb) dr q1 (fun H kp h => hq H _ (.bl true) e1 (F1.keep kp) (s1.trans (kp.stab F1.zo)) rfl h) (fun d ds h => h) fun ds H d v Kk kp r y hk => ?_
  cases d with
  | bl b =>
    refine ⟨b, r, ?_⟩
    cases b with
    | true => exact hk H kp y
    | false => exact hq H _ (.bl false) e1 (F1.keep kp) (s1.trans (kp.stab F1.zo)) rfl y
  | _ => exact False.elim y
theorem ev_anyG (hc : X.calm = true) (hr : Room (k + 1) X.A) (hgl : Gl X "any") (hm : X.mg "any" = none) (hT : Tb Pt) (TB : GxR.TabB X.base X.mg c Pt) (hcode : X.env.code = .ref c) (hi : IV X Tb tg iter mi) (ok : BlkOk X.N X.env.scope scope own) (nc : ∀ y ∈ scope.names, y.2 ≠ .cell) (hN : X.N.Nodup)
    (hus : ∀ i ∈ us, i ∈ own.map (·.2)) (hco : scope.isCoroutine = false) (hdot : scope.names.lookup (".0" : Str) = some NameKind.local)
    (hg : ∀ s H C cl code fp A, Room k A → GV (gxs X scope s H C cl code fp A) Tb tg g us) (ht : ∀ s H C cl code fp A, Room k A → FTV (gxs X scope s H C cl code fp A) Tb ifs mt)
    (he : ∀ s H C cl code fp A, Room k A → EV (gxs X scope s H C cl code fp A) Tb elt me) (hvs : own.map (·.2) = vs := by rfl)
    (hs : ∀ v, genFold iter X.env v = pure v := by intro _; rfl)
    (hE : starEach [.GeneratorExp elt [⟨tg, iter, ifs, 0⟩] scope gpos] X.env = (false, eval (.GeneratorExp elt [⟨tg, iter, ifs, 0⟩] scope gpos) X.env) :: starEach [] X.env := by rfl) :
    EV X Tb (.Call (.Name "any" p) [.GeneratorExp elt [⟨tg, iter, ifs, 0⟩] scope gpos] [] pos) (eAnyG mi g mt me vs) := by
  subst hvs
  obtain ⟨wi, pi, hi⟩ := hi.ex
  refine ⟨_, GX.pe_anyG (g := TGm X.K Tb g us) (tt := TTm X.K Tb mt) (te := TEm X.K Tb me) hc hr hgl hm TB hcode pi ok nc hN hco hdot (fun s H C cl code fp A r => (hg s H C cl code fp A r).pg) (fun s H C cl code fp A r => (ht s H C cl code fp A r).pt) (fun s H C cl code fp A r => (he s H C cl code fp A r).pe) hs hE,
    fun W Oc H0 O H σ env Q P F hm hq => ?_⟩
  refine hi W Oc H0 O H σ env _ _ F hm fun H1 J items e1 F1 s1 dr q1 => ⟨W.tab H1 Pt F1.g hT, fun H2 tb => ?_⟩
  refine turns_read (Yd := yAny fun k => P (.bl k) e1) (anyLoop g mt me (hide (DL.wipe e1 (own.map fun (q : Str × Nat) => q.2))) fun k => P (.bl k) e1) hus F1 (tab_keep F1.g hT tb) dr q1 (fun H kp h => hq H _ (.bl false) e1 (F1.keep kp) (s1.trans (kp.stab F1.zo)) rfl h) (fun d ds h => h) fun ds H d v Kk kp r y hk => ?_
  cases d with
  | bl b =>
    refine ⟨b, r, ?_⟩
    cases b with
    | true => exact hq H _ (.bl true) e1 (F1.keep kp) (s1.trans (kp.stab F1.zo)) rfl y
    | false => exact hk H kp y
  | _ => exact False.elim y
theorem ev_tupleG (hc : X.calm = true) (hr : Room (k + 1) X.A) (hgl : Gl X "tuple") (hm : X.mg "tuple" = none) (hT : Tb Pt) (TB : GxR.TabB X.base X.mg c Pt) (hcode : X.env.code = .ref c) (hi : IV X Tb tg iter mi) (ok : BlkOk X.N X.env.scope scope own) (nc : ∀ y ∈ scope.names, y.2 ≠ .cell) (hN : X.N.Nodup)
    (hus : ∀ i ∈ us, i ∈ own.map (·.2)) (hco : scope.isCoroutine = false) (hdot : scope.names.lookup (".0" : Str) = some NameKind.local)
    (hg : ∀ s H C cl code fp A, Room k A → GV (gxs X scope s H C cl code fp A) Tb tg g us) (ht : ∀ s H C cl code fp A, Room k A → FTV (gxs X scope s H C cl code fp A) Tb ifs mt)
    (he : ∀ s H C cl code fp A, Room k A → EV (gxs X scope s H C cl code fp A) Tb elt me) (hvs : own.map (·.2) = vs := by rfl)
    (hs : ∀ v, genFold iter X.env v = pure v := by intro _; rfl)
    (hE : starEach [.GeneratorExp elt [⟨tg, iter, ifs, 0⟩] scope gpos] X.env = (false, eval (.GeneratorExp elt [⟨tg, iter, ifs, 0⟩] scope gpos) X.env) :: starEach [] X.env := by rfl) :
    EV X Tb (.Call (.Name "tuple" p) [.GeneratorExp elt [⟨tg, iter, ifs, 0⟩] scope gpos] [] pos) (eTupleG mi g mt me vs) := by
  subst hvs
  obtain ⟨wi, pi, hi⟩ := hi.ex
  refine ⟨_, GX.pe_tupleG (g := TGm X.K Tb g us) (tt := TTm X.K Tb mt) (te := TEm X.K Tb me) hc hr hgl hm TB hcode pi ok nc hN hco hdot (fun s H C cl code fp A r => (hg s H C cl code fp A r).pg) (fun s H C cl code fp A r => (ht s H C cl code fp A r).pt) (fun s H C cl code fp A r => (he s H C cl code fp A r).pe) hs hE,
    fun W Oc H0 O H σ env Q P F hm hq => ?_⟩
  refine hi W Oc H0 O H σ env _ _ F hm fun H1 J items e1 F1 s1 dr ⟨hlen, q1⟩ => ⟨W.tab H1 Pt F1.g hT, fun H2 tb D hD2 => ?_⟩
  have kp0 := tab_keep F1.g hT tb
  have hD : H1 D = none := by
    by_cases z : D = Pt
    · obtain ⟨ps, e, _⟩ := tb.1
      rw [z, e] at hD2; cases hD2
    · rw [← tb.2 D z]; exact hD2
  have nOD : ¬ O D := F1.nO hD
  let O' : Addr → Prop := fun a => O a ∨ a = D
  have hZD : ¬ W.Z D := fun z => by
    obtain ⟨u, q⟩ := W.dom H1 D F1.g z
    rw [hD] at q; cases q
  have F20 := F1.keep kp0
  refine ⟨fun i m H2 => ∃ acc accD, m = items.length - i ∧ i ≤ items.length ∧ Keep W H1 H2 ∧ H2 D = some (.lst acc) ∧ Rps W O' H2 accD acc ∧ accD.length ≤ i ∧ lcLoop g mt me (hide (DL.wipe e1 (own.map fun (q : Str × Nat) => q.2))) (fun acc => P (.tup acc) e1) (items.drop i) accD,
    ⟨_, [], [], rfl, Nat.zero_le _, kp0.trans (Keep.same kp0.1 (same_upd hD2)), upd_same, rfl, Nat.le_refl _, by simpa using q1⟩, ?_⟩
  rintro i m H2 ⟨acc, accD, rfl, hle, kp, hDa, racc, hal, q2⟩
  have mv : Mv O H1 O' H2 := fun a o e n => ⟨kp.stab F1.zo a o e n, fun z => z.elim n fun z => by rw [z, hD] at e; cases e⟩
  have F2 := F1.keep kp
  have hO' : ∀ p, H2 p = none → ¬ O' p := fun p hp z => by
    rcases z with z | z
    · exact F2.nO hp z
    · rw [z, hDa] at hp; cases hp
  obtain ⟨dgo, dst⟩ := dr O' H2 mv hO' i
  by_cases hlt : i < items.length
  · rw [List.drop_eq_getElem_cons hlt] at q2
    obtain ⟨go, yl⟩ := dgo items[i] (List.getElem?_eq_getElem hlt)
    refine .inr ⟨go, fun x H3 hy => ?_⟩
    obtain ⟨sm, rx⟩ := yl x H3 hy
    have kp3 : Keep W H1 H3 := kp.trans (Keep.same kp.1 sm)
    have F3 := F1.keep kp3
    have hD3 : H3 D = some (.lst acc) := sm D _ hDa
    have mv3 : Mv O H1 O' H3 := fun a o e n => ⟨kp3.stab F1.zo a o e n, fun z => z.elim n fun z => by rw [z, hD] at e; cases e⟩
    have Fi : FR W O' H3 O' H3 (L2.wipe σ (own.map fun (q : Str × Nat) => q.2)) (hide (DL.wipe e1 (own.map fun (q : Str × Nat) => q.2))) := F3.inner (O' := O') (fun a h => .inl h) (fun a h => by
      rcases h with h | h
      · exact F3.dom a h
      · rw [h]; exact ⟨_, hD3⟩) (fun j d v h1 h2 r => by
        obtain ⟨v', e', r'⟩ := F1.slot j _ h1
        rw [h2] at e'
        cases e'
        exact Rep.mv mv3 r') _
    refine ⟨W, O', H3, O', _, items[i], _, Fi, rx, q2, fun H4 σ4 e4 F4 s4 w4 q4 => ⟨(w4 _ hus).trans (wipe_wipe σ _), ?_⟩⟩
    refine ⟨W, O', H3, O', e4, _, F4, q4, fun H5 b e5 F5 s5 q5 => ?_⟩
    cases b with
    | true =>
      refine iteT ⟨W, O', H3, O', e5, _, F5, q5, fun H6 y dy e6 F6 s6 ry q6 => ?_⟩
      have kp6 : Keep W H1 H6 := kp3.trans F6.rt
      have hD6 : H6 D = some (.lst acc) := F6.kept D _ hD3 hZD
      have st36 : Stab O' H3 H6 := s4.trans (s5.trans s6)
      have racc6 : Rps W O' H6 accD acc := Reps.stab ((Stab.of sm).trans st36) racc
      have keepD : ∀ a o, H6 a = some o → a ≠ D → upd H6 D (.lst (acc ++ [y])) a = some o := fun a o e n => by rw [upd_ne n]; exact e
      have st6 : Stab O' H6 (upd H6 D (.lst (acc ++ [y]))) := fun a o e n => keepD a o e fun z => n (.inr z)
      have gl : W.G (upd H6 D (.lst (acc ++ [y]))) := W.loc H6 _ (fun a z => upd_ne fun q => hZD (q ▸ z)) F6.g
      refine ⟨acc, hD6, ?_, _, by omega, acc ++ [y], accD ++ [dy], rfl, hlt, ⟨gl, fun a o e n => ?_⟩, upd_same, Reps.stab st6 (racc6.app (Reps.one ry)), ?_, q6⟩
      · have := racc.length
        rw [this, ← ln_eq]
        omega
      · exact keepD a o (kp6.2 a o e n) fun z => by rw [z, hD] at e; cases e
      · rw [List.length_append, List.length_singleton]; omega
    | false =>
      have kp5 : Keep W H1 H5 := kp3.trans F5.rt
      exact iteF ⟨_, by omega, acc, accD, rfl, hlt, kp5, F5.kept D _ hD3 hZD, Reps.stab ((Stab.of sm).trans (s4.trans s5)) racc, by omega, q5⟩
  · have e : i = items.length := by omega
    subst e
    rw [List.drop_length] at q2
    refine .inl ⟨dst (Nat.le_refl _), acc, hDa, fun T hT0 => ?_⟩
    have racc' : Rps W O H2 accD acc := Reps.weak (fun a h => .inl h) racc
    exact hq _ _ (.tup accD) e1 (F2.same (same_upd hT0)) ((s1.trans (kp.stab F1.zo)).trans (Stab.of (same_upd hT0))) (new_tup F2 racc' hT0) q2
end
end DL

set_option Elab.async false
set_option linter.all false
set_option autoImplicit false
set_option maxRecDepth 100000
/-! DLF: the fresh list that a call without arguments returns. -/
namespace DL
open PySem PySem.Spec PyProof.Rows L2
mutual
/-- no list of length n within -/
def noLen (n : Nat) : D → Bool
  | .tup xs => noLens n xs
  | .lst xs => decide (xs.length ≠ n) && noLens n xs
  | .frz ns => decide (ns.length ≠ n)
  | .dct _ vs => noLens n vs
  | .gd ks vs => noLens n ks && noLens n vs
  | _ => true
def noLens (n : Nat) : List D → Bool
  | [] => true
  | x :: xs => noLen n x && noLens n xs
end
@[simp] def fCall0 (F : FD) : MF := fun env P => F [] fun d => match d with
  | .lst ds => noLens ds.length ds = true ∧ P ds env
  | _ => False
section
variable {K : PySem.W.Frag} {Pl O : Addr → Prop} {H : Hp} {p : Addr} {vs : List V} {n : Nat}
mutual
theorem Rep.off (hp : H p = some (.lst vs)) (hn : vs.length = n) : ∀ {d : D} {v : V}, noLen n d = true → Rep K Pl O H d v → Rep K Pl (fun a => O a ∨ a = p) H d v
  | .non, _, _, h => h
  | .bl _, _, _, h => h
  | .int _, _, _, h => h
  | .str _, _, _, h => h
  | .tup ds, _, z, h => by
    obtain ⟨a, ws, e, q, no, r⟩ := h
    exact ⟨a, ws, e, q, fun y => y.elim no fun y => (by rcases q with q | ⟨o, q⟩ <;> (rw [y, hp] at q; cases q)), Reps.off hp hn (by simpa [noLen] using z) r⟩
  | .rnk ns, _, z, h => by
    obtain ⟨a, o, e, q, c, d, no⟩ := h
    exact ⟨a, o, e, q, c, d, fun y => y.elim no fun y => (by rw [y, hp] at q; cases q)⟩
  | .gd ks vs, _, z, h => by
    obtain ⟨a, o, m, e, q, no, kd, r1, r2⟩ := h
    have z' : noLens n ks = true ∧ noLens n vs = true := by simpa [noLen] using z
    exact ⟨a, o, m, e, q, fun y => y.elim no fun y => (by rw [y, hp] at q; cases q), kd, Reps.off hp hn z'.1 r1, Reps.off hp hn z'.2 r2⟩
  | .lst ds, _, z, h => by
    obtain ⟨a, ws, e, q, no, r⟩ := h
    simp only [noLen, Bool.and_eq_true, decide_eq_true_eq] at z
    refine ⟨a, ws, e, q, fun y => y.elim no fun y => ?_, Reps.off hp hn z.2 r⟩
    rw [y, hp] at q
    cases q
    exact z.1 (by rw [← hn]; exact (r.length).symm)
  | .dct ks vs, _, z, h => by
    obtain ⟨a, e, no, h⟩ := h
    have z : noLens n vs = true := by simpa [noLen] using z
    rcases h with ⟨m, q, e1, r⟩ | ⟨m, q, e1, r⟩
    · exact ⟨a, e, fun y => y.elim no fun y => (by rw [y, hp] at q; cases q), .inl ⟨m, q, e1, Reps.off hp hn z r⟩⟩
    · exact ⟨a, e, fun y => y.elim no fun y => (by rw [y, hp] at q; cases q), .inr ⟨m, q, e1, Reps.off hp hn z r⟩⟩
  | .pool, _, _, h => h
  | .frz ns, _, z, h => by
    obtain ⟨a, e, q⟩ := h
    simp only [noLen, decide_eq_true_eq] at z
    refine ⟨a, e, q.imp_left fun q => ⟨q.1, fun y => y.elim q.2 fun y => ?_⟩⟩
    rcases q.1 with q | ⟨o, q⟩
    · rw [y, hp] at q; cases q; exact z (by rw [← hn]; simp)
    · rw [y, hp] at q; cases q
theorem Reps.off (hp : H p = some (.lst vs)) (hn : vs.length = n) : ∀ {ds : List D} {ws : List V}, noLens n ds = true → Reps K Pl O H ds ws → Reps K Pl (fun a => O a ∨ a = p) H ds ws
  | [], _, _, h => h
  | d :: ds, _, z, h => by
    obtain ⟨v, r, e, h1, h2⟩ := h
    simp only [noLens, Bool.and_eq_true] at z
    exact ⟨v, r, e, Rep.off hp hn z.1 h1, Reps.off hp hn z.2 h2⟩
end
end
section
variable {X : Cx} {Tb : Addr → Prop} {p pos : Pos}
theorem fv_call0 {x : Str} {k : Nat} {f : Addr} {fd : FuncData} {ps : List Str} {F : FD} (hF : FnOk X.prog X.w X.K X.mg X.base CX0 k f fd ps (spD X.K Tb F)) (hr : Room k X.A) (hg : Gl X x) (hm : X.mg x = some (.ref f)) (hk : PySem.W.keepIn X.K (.ref f) = true) (hb : Binds X.K fd ps [])
    (hdb : (x == ("__debug__" : Str)) = false := by decide) : FV X Tb (.Call (.Name x p) [] [] pos) (fCall0 F) := by
  refine ⟨_, pe_call0 hF hr hg hm hk hb .nil pass0 hdb, fun W Oc H0 O H σ env Q P F hm hq => ?_⟩
  refine ⟨W, fun a => O a ∨ ∃ o, H a = some o, [], _, F.g, fun a z => .inl (F.zo a z), fun a z => z.elim (F.dom a) id, rfl, hm, fun H2 v d k2 r2 q2 => ?_⟩
  cases d with
  | lst ds =>
    obtain ⟨q1, q2⟩ := q2
    obtain ⟨a, vs, rfl, ha, no, r⟩ := r2
    have h0 : H a = none := by
      cases e : H a with
      | none => rfl
      | some o => exact absurd (.inr ⟨o, e⟩) no
    have r' := Reps.weak (O' := O) (fun a h => .inl h) r
    exact hq H2 a vs ds env (F.keep k2) (F.addO h0 k2 ⟨_, ha, .inl ⟨_, rfl⟩⟩) (k2.stab F.zo) h0 (F.new0 h0) (fun z => no (.inl z)) ha (Reps.off ha r.length q1 r') q2
  | _ => exact False.elim q2
theorem fv_cl0 {x : Str} {j k : Nat} {ps : List Str} {F : FD} (d : DfOk X.prog X.w X.K X.mg X.base x ps j (spD X.K Tb F)) (hr : Room k X.A) (hjk : j ≤ k) (hg : Gl X x := by rfl) (hdb : (x == ("__debug__" : Str)) = false := by decide) : FV X Tb (.Call (.Name x p) [] [] pos) (fCall0 F) := by
  obtain ⟨f, fd, h, g, kp, b⟩ := d.ex
  exact fv_call0 h (hr.mono hjk) hg g kp b hdb
end
end DL

set_option Elab.async false
set_option linter.all false
set_option autoImplicit false
set_option maxRecDepth 100000
set_option maxHeartbeats 1000000
/-! DS: sorted, x[::-1]. -/
namespace DL
open PySem PySem.Spec PyProof.Rows L2
section
variable {prog : Program} {w : World} {A : Around} {E : Value → Shared → Prop} {s : Shared}
theorem collect_tupE {l : Addr} {vs : List Value} {Q : List Value → Shared → Prop} (hl : IsTup s.heap l vs.toArray)
    (h : ∀ h', (∀ b o, s.heap.get? b = some o → h'.get? b = some o) → s.heap.objs.size ≤ h'.objs.size → Q vs { s with heap := h' }) (hsz : vs.length ≤ sizeLine) : wpAny (model prog w) A (collect (.ref l)) Q E s := by
  obtain ⟨o, ho, hc, n, hd⟩ := id hl
  let hp : Heap := s.heap.push { cls := .type "list", data := .seq ([] : List Value).toArray }
  let hu : Heap := hp.update s.heap.objs.size (Obj.mapSeq (· ++ vs.toArray))
  have old : ∀ b o', s.heap.get? b = some o' → hu.get? b = some o' := fun b o' hb =>
    (Heap.get?_update_other _ _ (Nat.ne_of_gt (Heap.lt_size hb))).trans (Heap.get?_push_of_some _ hb)
  have big : s.heap.objs.size ≤ hu.objs.size := by
    show s.heap.objs.size ≤ (hp.update _ _).objs.size
    rw [Heap.size_update]
    show s.heap.objs.size ≤ (s.heap.push _).objs.size
    rw [Heap.size_push]; omega
  have hS : hp.get? s.heap.objs.size = some { cls := .type "list", data := .seq #[] 0 } := Heap.get?_push_size _ rfl
  have hS2 : hu.get? s.heap.objs.size = _ := Heap.get?_update_self (Obj.mapSeq (· ++ vs.toArray)) hS rfl
  have last : wpAny (model prog w) A (match Value.ref s.heap.objs.size with
      | Value.ref a => do
        match (← load a).data with
          | Data.seq xs _ => pure xs.toList
          | _ => unsupported "internal:collect"
      | _ => unsupported "internal:collect") Q E { s with heap := hu } := by
    show wpAny _ A (load s.heap.objs.size >>= _) _ _ _
    refine wpAny_bind (wpAny_load hS2 (wpAny_pure ?_))
    show Q ((#[] : Array Value) ++ vs.toArray).toList _
    rw [show ((#[] : Array Value) ++ vs.toArray).toList = vs by simp]
    exact h hu old big
  unfold collect
  refine wpAny_bind (wpAny_runValue (codeAny_builtin F.entry_proto_collect ?_))
  rw [Around.under_plainId F.plain_proto_collect _]
  show wpAny _ A.in1 (newList [] >>= fun l1 => again (.builtin "list.__iadd__" ⟨[l1, .ref l], []⟩)) _ _ s
  refine wpAny_bind (wpAny_newObj_type (wpAny_pure ⟨plainId_quiet F.plain_list_iadd _, codeAny_builtin F.entry_list_iadd ?_⟩))
  rw [Around.under_plainId F.plain_list_iadd _]
  show wpAny _ A.in1 (Builtin.List.listExtendWith (.ref s.heap.objs.size) (.ref l) (.ref s.heap.objs.size)) _ _ _
  refine wpAny_mono (wpAny_extend_seq (hsz := by rw [List.size_toArray]; exact hsz) (A := A) (R := fun r s' => r = .ok (.ret (.ref s.heap.objs.size)) ∧ s' = { s with heap := hu }) (s := { s with heap := hp }) _ l _ 0 (.inr rfl) hS (Heap.get?_push_of_some _ ho) hc hd ⟨rfl, rfl⟩) (fun fin s' k => ?_) (fun e s' k => absurd k.1 (by simp))
  cases fin with
  | done f =>
    obtain ⟨e, rfl⟩ := k
    cases e
    exact last
  | again c' => exact ⟨k.1, codeAny_mono k.2 fun r s2 hr => by obtain ⟨rfl, rfl⟩ := hr; exact last⟩
/-- sorted(t) of a tuple -/
theorem sortedT_ord {l : Addr} {vs : List Value} {ltv : Value → Value → Bool} {Q : Value → Shared → Prop} (O : SrtO.Swo ltv) (hl : IsTup s.heap l vs.toArray) (hz : vs.length ≤ sizeLine)
    (hS : 2 ≤ vs.length → ∀ (h₁ : Heap) (a : Addr), h₁.get? a = some (seqObj "list" vs.toArray 0) → (∀ b o, s.heap.get? b = some o → b ≠ a ∧ h₁.get? b = some o) → SrtO.SortableO prog w A.in1.in1 { s with heap := h₁ } a vs ltv)
    (h : ∀ (out : List Value) (p : Addr) (h' : Heap) (e : Nat), SrtO.Srtd ltv out → SrtO.Stb ltv out vs → (∀ b o, s.heap.get? b = some o → h'.get? b = some o) → s.heap.objs.size ≤ p → h'.get? p = some (seqObj "list" out.toArray e) → Q (.ref p) { s with heap := h' }) :
    wpAny (model prog w) A (call (.builtin "sorted") [.ref l]) Q E s := by
  refine Calls.call_function_entry kind_sorted plain_sorted entry_sorted (args_sorted1 _) ?_
  unfold Builtin.«sorted»
  refine wpAny_bind (m := checkCount "sorted" 1 1 _) (wpAny_pure ?_)
  refine wpAny_bind (collect_tupE hl (fun h1 k1 hsz => ?_) hz)
  refine wpAny_bind (wpAny_newList ?_ hz)
  have hoL : (h1.push (seqObj "list" vs.toArray 0)).get? h1.objs.size = some (seqObj "list" vs.toArray 0) := Heap.get?_push_size _ rfl
  have keep : ∀ b o, s.heap.get? b = some o → b ≠ h1.objs.size ∧ (h1.push (seqObj "list" vs.toArray 0)).get? b = some o := fun b o q => by
    have q1 := k1 b o q
    exact ⟨Nat.ne_of_lt (Heap.lt_size q1), Heap.get?_push_of_some _ q1⟩
  refine wpAny_bind (wpAny_holding (wpAny_call_entry slot_list_sort ⟨_, hoL, rfl⟩ entry_list_sort (SrtO.list_sort_ord O hoL hz (fun h2 => hS h2 _ _ hoL keep) fun out hs hb => ⟨_, rfl, ?_⟩) (args_list_sort _)))
  obtain ⟨ep, he'⟩ := PyProof.Rows.sortedHeap_at (vs := vs) (out := out.toArray) hoL
  refine wpAny_pure ⟨_, rfl, h out _ _ ep hs hb (fun b o q => ?_) hsz he'⟩
  obtain ⟨n1, q1⟩ := keep b o q
  rw [PyProof.Rows.sortedHeap_old n1 (Heap.lt_size q1)]; exact q1
theorem sliceApplied_rev {sl : Addr} {vl vu vs : Value} {n : Nat} {Q : Int × Int × Nat → Shared → Prop} (hs : s.heap.IsSliceOf sl vl vu vs) (pl : IsPart vl none) (pu : IsPart vu none) (ps : IsPart vs (some (-1)))
    (h : Q ((n : Int) - 1, -1, n) s) : wpAny (model prog w) A (Builtin.Slice.sliceApplied (.ref sl) (pure (n : Int))) Q E s := by
  obtain ⟨os, hos, hcs, hds⟩ := id hs
  unfold Builtin.Slice.sliceApplied Builtin.Slice.sliceFields
  refine wpAny_bind (wpAny_bind (wpAny_field hos hds (x := vl) rfl (wpAny_bind (wpAny_field hos hds (x := vu) rfl (wpAny_bind (wpAny_field hos hds (x := vs) rfl (wpAny_pure ?_)))))))
  refine wpAny_bind (HT.slicePart_ ps ?_)
  show wpAny _ _ (if ((-1 : Int) == 0) = true then _ else _) _ _ s
  rw [if_neg (by decide)]
  refine wpAny_bind (HT.slicePart_ pl (wpAny_bind (HT.slicePart_ pu (wpAny_bind (wpAny_pure ?_)))))
  show wpAny _ _ (pure ((n : Int) - 1, (-1 : Int), Builtin.Slice.slicePlaces ((n : Int) - 1) (-1) (-1))) _ _ s
  have e : Builtin.Slice.slicePlaces ((n : Int) - 1) (-1) (-1) = n := by
    unfold Builtin.Slice.slicePlaces
    have h1 : ¬ ((-1 : Int) > 0) := by omega
    simp only [h1, if_false]
    split <;> simp <;> omega
  rw [e]
  exact wpAny_pure h
theorem pick_rev (xs : Array Value) : ((List.range xs.size).filterMap fun (m : Nat) => xs[((xs.size : Int) - 1 + (m : Int) * (-1)).toNat]?).toArray = xs.toList.reverse.toArray := by
  congr 1
  apply List.ext_getElem?
  intro i
  have e : (fun (m : Nat) => xs[((xs.size : Int) - 1 + (m : Int) * (-1)).toNat]?) = fun m => xs[(xs.size - 1 - m)]? := by
    funext m
    have : ((xs.size : Int) - 1 + (m : Int) * (-1)).toNat = xs.size - 1 - m := by omega
    rw [this]
  rw [e]
  have e2 : (List.range xs.size).filterMap (fun m => xs[xs.size - 1 - m]?) = (List.range xs.size).map fun m => xs.getD (xs.size - 1 - m) .none := by
    have : ∀ (l : List Nat), (∀ m ∈ l, m < xs.size) → l.filterMap (fun m => xs[xs.size - 1 - m]?) = l.map fun m => xs.getD (xs.size - 1 - m) .none := by
      intro l
      induction l with
      | nil => intro _; rfl
      | cons m l ih =>
        intro hl
        have hm := hl m (List.mem_cons_self ..)
        have h1 : xs.size - 1 - m < xs.size := by omega
        rw [List.map_cons, List.filterMap_cons]
        have h2 : xs[xs.size - 1 - m]? = some (xs.getD (xs.size - 1 - m) .none) := by simp [Array.getD, h1]
        rw [h2]
        simp only
        rw [ih fun m hm => hl m (List.mem_cons_of_mem _ hm)]
    exact this _ fun m hm => List.mem_range.mp hm
  rw [e2]
  by_cases hi : i < xs.size
  · rw [List.getElem?_map, List.getElem?_range hi, List.getElem?_reverse (by simpa using hi)]
    have h1 : xs.size - 1 - i < xs.size := by omega
    simp [Array.getD, h1]
  · rw [List.getElem?_eq_none (by simp; omega), List.getElem?_eq_none (by simp; omega)]
theorem getItem_tuple_rev {t sl : Addr} {items : Array Value} {vl vu vs : Value} {Q : Value → Shared → Prop} (ht : IsTup s.heap t items) (hs : s.heap.IsSliceOf sl vl vu vs) (pl : IsPart vl none) (pu : IsPart vu none) (ps : IsPart vs (some (-1)))
    (h : Q (.ref s.heap.objs.size) { s with heap := s.heap.push { cls := .type "tuple", data := .seq items.toList.reverse.toArray } })
    (hsz : items.size ≤ sizeLine) : wpAny (model prog w) A (getItem (.ref t) (.ref sl)) Q E s := by
  have htake : sizeOk (.seq items.toList.reverse.toArray) := by
    show items.toList.reverse.toArray.size ≤ sizeLine
    rw [List.size_toArray, List.length_reverse, Array.length_toList]
    exact hsz
  obtain ⟨os, hos, hcs, hds⟩ := id hs
  have hTs : s.TypeIs (.ref sl) "slice" := ⟨os, hos, hcs⟩
  unfold getItem
  try with_reducible refine wpAny_holding ?_
  first | refine wpAny_bind (wpAny_pure ?_) | skip
  refine wpAny_bind (wpAny_sequenceKey ht.typeIs (by decide) ?_)
  refine wpAny_bind (wpAny_callSpecial?_slot (name := Str.ofString "__getitem__") ht.typeIs PyProof.Rows.slot_tuple_getitem
    (wpAny_call_entry PyProof.Rows.slot_tuple_getitem ht.typeIs entry_tuple_getitem ?_ (args_tuple_getitem _ _)))
  show wpAny _ _ (Builtin.Tuple.tupleItemsOf (.ref t) >>= _) _ _ s
  refine wpAny_bind (PyProof.Rows.tupleItemsOf_ ht ?_)
  refine wpAny_bind (wpAny_typeOf hTs ?_)
  rw [if_pos (by decide)]
  refine wpAny_bind (sliceApplied_rev hs pl pu ps ?_)
  have hno : ¬ ((((items.size : Int) - 1) == 0 && (-1 : Int) == 1 && items.size == items.size) = true) := by
    intro q
    rw [Bool.and_eq_true, Bool.and_eq_true] at q
    exact absurd q.1.2 (by decide)
  show wpAny _ _ (if (((items.size : Int) - 1) == 0 && (-1 : Int) == 1 && items.size == items.size) = true then _ else _) _ _ s
  rw [if_neg hno, pick_rev]
  first
    | exact wpAny_bind (m := Builtin.Tuple.tupleExact _) (wpAny_newObj_type (wpAny_pure ⟨_, rfl, wpAny_pure h⟩) htake)
    | exact wpAny_bind (m := Builtin.Tuple.tupleExact _) (wpAny_newObj_type (wpAny_bind (wpAny_pure (wpAny_pure ⟨_, rfl, wpAny_pure h⟩))) htake)
    | exact wpAny_bind (wpAny_bind (m := Builtin.Tuple.tupleExact _) (wpAny_newObj_type (wpAny_pure (wpAny_pure ⟨_, rfl, wpAny_pure h⟩)) htake))
    | exact wpAny_bind (wpAny_bind (m := Builtin.Tuple.tupleExact _) (wpAny_newObj_type (wpAny_pure ⟨_, rfl, wpAny_pure h⟩) htake))
end
section
variable {X : Cx}
/-- x[::-1] -/
def tRevS (K : PySem.W.Frag) (te : TE) : TE := fun σ H Q => te σ H fun x H1 => ∃ a xs, x = .ref a ∧ ((SqL K H1 a xs ∧ ∀ p, H1 p = none → Q (.ref p) (upd H1 p (.lst xs.reverse))) ∨ (SqT K H1 a xs ∧ ∀ p, H1 p = none → Q (.ref p) (upd H1 p (.tup xs.reverse))))
theorem pe_revS {e : Expr} {te : TE} {k : Nat} {p1 p2 p3 pos : Pos} (he : PE X e te) : PE X (.Subscript e (.Slice none none (some (.UnaryOp .USub (.Constant (.int 1) k p1) p2)) p3) pos) (tRevS X.K te) := by
  refine ⟨fun pins s σ H Q I h => ?_⟩
  refine Subscript_ (thn (he.run pins s σ H _ I h) fun v s1 ⟨x, H1, I1, r1, q1⟩ => ?_)
  obtain ⟨a, xs, ex, q⟩ := q1
  subst ex
  cases r1
  have hst : PO X (some (.UnaryOp .USub (.Constant (.int 1) k p1) p2)) (tPart (tUn (rU fun i => .int (-i)) (tC (.int 1)))) := po_some (pe_un un_neg pe_int)
  refine wpAny_Slice (thn (po_none.run pins s1 σ H1 (fun o H2 => o = none ∧ H2 = H1) I1 ⟨rfl, rfl⟩) fun vl s2 ⟨l, H2, I2, pl, el, e2⟩ => ?_)
  subst el e2
  refine thn (po_none.run pins s2 σ H2 (fun o H3 => o = none ∧ H3 = H2) I2 ⟨rfl, rfl⟩) fun vu s3 ⟨u, H3, I3, pu, eu, e3⟩ => ?_
  subst eu e3
  refine thn (hst.run pins s3 σ H3 (fun o H4 => o = some (-1) ∧ H4 = H3) I3 ⟨1, rfl, -1, rfl, rfl, rfl⟩) fun vs s4 ⟨o, H4, I4, ps, eo, e4⟩ => ?_
  subst eo e4
  have I5 : Inv X pins σ H4 { s4 with heap := s4.heap.push { cls := .type "slice", data := .fields #[vl, vu, vs] } } := I4.kept (t' := s4.toks) fun b ob q => Heap.get?_push_of_some _ q
  show wpAny (model X.prog X.w) X.A (subscriptTail e (.Slice none none (some (.UnaryOp .USub (.Constant (.int 1) k p1) p2)) p3) (.ref a) (.ref s4.heap.objs.size)) (EP X pins σ Q) X.xe { s4 with heap := s4.heap.push { cls := .type "slice", data := .fields #[vl, vu, vs] } }
  rcases q with ⟨hx, q⟩ | ⟨hx, q⟩
  · obtain ⟨its, r, ht, hz⟩ := I5.list hx
    have hlen := r.length
    refine tail_any (ops := [.ref a, .ref s4.heap.objs.size]) ht.isList.typeIs (PySem.slot_list_getitem.lookup) ?_ (by with_unfolding_all rfl)
    refine wpAny_getItem_list_slice ht.isList (Heap.IsSliceOf.new _ vl vu vs) pl pu ps (by decide) ?_ (by rw [List.size_toArray]; omega)
    rw [PySem.W.krv_pick]
    refine ⟨.ref _, _, I5.laid (t' := s4.toks) (o := .lst xs.reverse) (fun b ob q => Heap.get?_push_of_some _ q) (Nat.le_refl _) ?_, rfl, q _ (I5.hok.fresh (Nat.le_refl _))⟩
    exact ⟨by rw [List.length_reverse]; exact hz, _, 0, r.reverse, Heap.get?_push_size _ rfl⟩
  · obtain ⟨its, r, ht, hz⟩ := I5.tuple hx
    have hlen := r.length
    refine tail_any (ops := [.ref a, .ref s4.heap.objs.size]) ht.typeIs (PyProof.Rows.slot_tuple_getitem.lookup) ?_ (by with_unfolding_all rfl)
    refine getItem_tuple_rev ht (Heap.IsSliceOf.new _ vl vu vs) pl pu ps ?_ (by rw [List.size_toArray]; omega)
    refine ⟨.ref _, _, I5.laid (t' := s4.toks) (o := .tup xs.reverse) (fun b ob q => Heap.get?_push_of_some _ q) (Nat.le_refl _) ?_, rfl, q _ (I5.hok.fresh (Nat.le_refl _))⟩
    refine ⟨by rw [List.length_reverse]; exact hz, _, r.reverse, ?_⟩
    rw [List.toList_toArray]
    exact IsTup.new _ _
/-- sorted(x), ints -/
def rSortedS (K : PySem.W.Frag) : List V → Hp → VK → Prop := fun vs H Q => ∃ (a : Addr) (ns : List Int), vs = [V.ref a] ∧ (SqL K H a (ns.map V.int) ∨ SqT K H a (ns.map V.int)) ∧
  ∀ (ns' : List Int) (p : Addr), ns'.Perm ns → ns'.Pairwise (· ≤ ·) → H p = none → Q (.ref p) (upd H p (.lst (ns'.map V.int)))
theorem cr_sortedS : CallR X (.builtin "sorted") (rSortedS X.K) := by
  intro pins s σ H vs us Q I r h
  obtain ⟨a, ns, rfl, hs, q⟩ := h
  rcases hs with hs | hs
  · exact cr_sortedI pins s σ H _ us Q I r ⟨a, ns, rfl, hs, q⟩
  · obtain ⟨its, rv, hl, hz⟩ := I.tuple hs
    rw [Vals.ref1 r]
    have hi := rv.ints
    refine sortedT_ord SrtO.swo_int hl (by rw [← rv.length]; exact hz) (fun h2 h₁ a' _ _ => SrtO.ints_sortable hi h2) fun out p h' e h1 h2 kp hp he => ?_
    obtain ⟨k1, k2, k3⟩ := SrtO.ints_out hi h1 h2
    have hlen : ((out.map SrtO.iv).map V.int).length ≤ sizeLine := by
      rw [List.length_map, k2.length_eq]
      rw [List.length_map] at hz
      exact hz
    exact ⟨.ref p, upd H p (.lst ((out.map SrtO.iv).map V.int)), I.laid (t' := s.toks) kp hp ⟨hlen, out, e, vals_of_ints k1, he⟩, rfl, q _ _ k2 k3 (I.hok.fresh hp)⟩
end
@[simp] def eRev (m : ME) : ME := fun env P => m env fun x e1 => match x with
  | .tup xs => P (.tup xs.reverse) e1
  | .lst xs => P (.lst xs.reverse) e1
  | _ => False
def fSorted : FD := fun ds P => ∃ ns : List Int, (ds = [.tup (ns.map D.int)] ∨ ds = [.lst (ns.map D.int)]) ∧ ∀ ns' : List Int, ns'.Perm ns → ns'.Pairwise (· ≤ ·) → P (.lst (ns'.map D.int))
section
variable {X : Cx} {Tb : Addr → Prop} {e : Expr} {m : ME} {pos p p1 p2 p3 : Pos} {k : Nat}
theorem Reps.reverse {K : PySem.W.Frag} {Pl O : Addr → Prop} {H : Hp} : ∀ {ds : List D} {vs : List V}, Reps K Pl O H ds vs → Reps K Pl O H ds.reverse vs.reverse
  | [], _, h => by rw [show _ = [] from h]; rfl
  | d :: ds, _, h => by
    obtain ⟨v, r, rfl, h1, h2⟩ := h
    rw [List.reverse_cons, List.reverse_cons]
    exact (Reps.reverse h2).app (Reps.one h1)
theorem ev_rev (h : EV X Tb e m) : EV X Tb (.Subscript e (.Slice none none (some (.UnaryOp .USub (.Constant (.int 1) k p1) p2)) p3) pos) (eRev m) := by
  obtain ⟨t, pe, h⟩ := h.ex
  refine ⟨_, pe_revS pe, fun W Oc H0 O H σ env Q P F hm hq => ?_⟩
  refine h W Oc H0 O H σ env _ _ F hm fun H1 v d e1 F1 s1 r1 q1 => ?_
  cases d with
  | tup xs =>
    obtain ⟨a, vs, rfl, qa, na, ra⟩ := id r1
    exact ⟨a, vs, rfl, .inr ⟨sqRd qa, fun p hp => hq _ _ _ e1 (F1.same (same_upd hp)) (s1.trans (Stab.of (same_upd hp))) (new_tup F1 ra.reverse hp) q1⟩⟩
  | lst xs =>
    obtain ⟨a, vs, rfl, qa, na, ra⟩ := id r1
    exact ⟨a, vs, rfl, .inl ⟨SqL.of qa, fun p hp => hq _ _ _ e1 (F1.same (same_upd hp)) (s1.trans (Stab.of (same_upd hp))) (new_lst F1 ra.reverse hp) q1⟩⟩
  | _ => exact False.elim q1
theorem reps_intV {K : PySem.W.Frag} {Pl O : Addr → Prop} {H : Hp} : ∀ {ns : List Int} {vs : List V}, Reps K Pl O H (ns.map D.int) vs → vs = ns.map V.int
  | [], _, h => h
  | n :: ns, _, h => by
    obtain ⟨v, r, rfl, h1, h2⟩ := h
    rw [reps_intV h2, show v = _ from h1]; rfl
theorem cv_sorted : CV X (.builtin "sorted") fSorted := by
  refine ⟨_, cr_sortedS, fun Pl O H ds vs Q P hO r h hq => ?_⟩
  obtain ⟨ns, hds, h⟩ := h
  have fin : ∀ (ns' : List Int) (p : Addr), ns'.Perm ns → ns'.Pairwise (· ≤ ·) → H p = none → Q (.ref p) (upd H p (.lst (ns'.map V.int))) := fun ns' p h1 h2 hp =>
    hq _ _ (.lst (ns'.map D.int)) (same_upd hp) (rep_new_lst hO (reps_ints ns') hp) (h ns' h1 h2)
  rcases hds with rfl | rfl
  · obtain ⟨v, us, rfl, ⟨a, ws, rfl, qa, na, ra⟩, rfl⟩ := r
    have e := reps_intV ra
    subst e
    exact ⟨a, ns, rfl, .inr (sqRd qa), fin⟩
  · obtain ⟨v, us, rfl, ⟨a, ws, rfl, qa, na, ra⟩, rfl⟩ := r
    have e := reps_intV ra
    subst e
    exact ⟨a, ns, rfl, .inl (SqL.of qa), fin⟩
/-- xs + ys, a new list -/
@[simp] def fAdd (a b : ME) : MF := fun env P => a env fun x e1 => b e1 fun y e2 => match x, y with
  | .lst xs, .lst ys => xs.length + ys.length ≤ LN ∧ P (xs ++ ys) e2
  | _, _ => False
theorem fv_add {a b : Expr} {ma mb : ME} (ha : EV X Tb a ma) (hb : EV X Tb b mb) : FV X Tb (.BinOp a .Add b pos) (fAdd ma mb) := by
  obtain ⟨ta, pa, h1⟩ := ha.ex
  obtain ⟨tb, pb, h2⟩ := hb.ex
  refine fv_of (pe_op op_cat pa pb) fun W Oc H0 O H σ env Q P F hm hq => ?_
  refine h1 W Oc H0 O H σ env _ _ F hm fun H1 v d e1 F1 s1 r1 q1 => ?_
  refine h2 W Oc H0 O H1 σ e1 _ _ F1 q1 fun H2 u d2 e2 F2 s2 r2 q2 => ?_
  have r3 : Rp W O H2 d v := Rep.stab s2 r1
  cases d with
  | lst xs =>
    cases d2 with
    | lst ys =>
      obtain ⟨l, vs, rfl, qa, na, ra⟩ := r3
      obtain ⟨l2, us, rfl, qb, nb, rb⟩ := r2
      exact ⟨l, l2, vs, us, rfl, rfl, qa, qb, by rw [ra.length, rb.length, ← ln_eq]; exact q2.1, hq H2 (vs ++ us) (xs ++ ys) e2 F2 (s1.trans s2) (ra.app rb) q2.2⟩
    | _ => exact False.elim q2
  | _ => exact False.elim q2
mutual
/-- no list within -/
def noL : D → Bool
  | .tup xs => noLz xs
  | .lst _ => false
  | .frz _ => false
  | .dct _ vs => noLz vs
  | .gd ks vs => noLz ks && noLz vs
  | _ => true
def noLz : List D → Bool
  | [] => true
  | x :: xs => noL x && noLz xs
end
mutual
theorem Rep.offL {K : PySem.W.Frag} {Pl O : Addr → Prop} {H : Hp} : ∀ {d : D} {v : V}, noL d = true → Rep K Pl O H d v → Rep K Pl (fun a => O a ∨ ∃ ws, H a = some (.lst ws)) H d v
  | .non, _, _, h => h
  | .bl _, _, _, h => h
  | .int _, _, _, h => h
  | .str _, _, _, h => h
  | .tup ds, _, z, h => by
    obtain ⟨a, ws, e, q, no, r⟩ := h
    exact ⟨a, ws, e, q, fun y => y.elim no fun ⟨w, y⟩ => (by rcases q with q | ⟨o, q⟩ <;> (rw [q] at y; cases y)), Reps.offL (by simpa [noL] using z) r⟩
  | .rnk ns, _, z, h => by
    obtain ⟨a, o, e, q, c, d, no⟩ := h
    exact ⟨a, o, e, q, c, d, fun y => y.elim no fun ⟨w, y⟩ => (by rw [q] at y; cases y)⟩
  | .gd ks vs, _, z, h => by
    obtain ⟨a, o, m, e, q, no, kd, r1, r2⟩ := h
    have z' : noLz ks = true ∧ noLz vs = true := by simpa [noL] using z
    exact ⟨a, o, m, e, q, fun y => y.elim no fun ⟨w, y⟩ => (by rw [q] at y; cases y), kd, Reps.offL z'.1 r1, Reps.offL z'.2 r2⟩
  | .lst _, _, z, _ => by simp [noL] at z
  | .dct ks vs, _, z, h => by
    obtain ⟨a, e, no, h⟩ := h
    have z : noLz vs = true := by simpa [noL] using z
    rcases h with ⟨m, q, e1, r⟩ | ⟨m, q, e1, r⟩
    · exact ⟨a, e, fun y => y.elim no fun ⟨w, y⟩ => (by rw [q] at y; cases y), .inl ⟨m, q, e1, Reps.offL z r⟩⟩
    · exact ⟨a, e, fun y => y.elim no fun ⟨w, y⟩ => (by rw [q] at y; cases y), .inr ⟨m, q, e1, Reps.offL z r⟩⟩
  | .pool, _, _, h => h
  | .frz _, _, z, _ => by simp [noL] at z
theorem Reps.offL {K : PySem.W.Frag} {Pl O : Addr → Prop} {H : Hp} : ∀ {ds : List D} {ws : List V}, noLz ds = true → Reps K Pl O H ds ws → Reps K Pl (fun a => O a ∨ ∃ ws, H a = some (.lst ws)) H ds ws
  | [], _, _, h => h
  | d :: ds, _, z, h => by
    obtain ⟨v, r, e, h1, h2⟩ := h
    simp only [noLz, Bool.and_eq_true] at z
    exact ⟨v, r, e, Rep.offL z.1 h1, Reps.offL z.2 h2⟩
end
/-- a def's own new list, its arguments without lists -/
@[simp] def fCallN (F : FD) (r : MA) : MF := fun env P => r env fun xs e1 => noLz xs = true ∧ F xs fun d => match d with
  | .lst ds => noLens ds.length ds = true ∧ P ds e1
  | _ => False
theorem fv_call {x : Str} {k : Nat} {f : Addr} {fd : FuncData} {ps : List Str} {F : FD} {es : List Expr} {mr : MA} (hF : FnOk X.prog X.w X.K X.mg X.base CX0 k f fd ps (spD X.K Tb F)) (hr : Room k X.A) (hg : Gl X x) (hm : X.mg x = some (.ref f)) (hk : PySem.W.keepIn X.K (.ref f) = true) (hb : Binds X.K fd ps [])
    (ha : AV X Tb (e :: es) mr) (hdb : (x == ("__debug__" : Str)) = false := by decide) (he : starEach (e :: es) X.env = (false, eval e X.env) :: starEach es X.env := by rfl) (hpl : (backTo pos (starEach es X.env)).any (·.1) = false := by rfl) :
    FV X Tb (.Call (.Name x p) (e :: es) [] pos) (fCallN F mr) := by
  obtain ⟨ta, pa, h1⟩ := ha.ex
  refine ⟨_, pe_call hF hr hg hm hk hb .nil pass0 pa hdb he hpl, fun W Oc H0 O H σ env Q P FF hm hq => ?_⟩
  refine h1 W Oc H0 O H σ env _ _ FF hm fun H1 xs ds e1 F1 s1 r1 ⟨nl, q1⟩ => ?_
  refine ⟨W, fun a => O a ∨ ∃ ws, H1 a = some (.lst ws), ds, _, F1.g, fun a z => .inl (F1.zo a z), fun a z => z.elim (F1.dom a) fun ⟨ws, z⟩ => ⟨_, z⟩, by rw [List.append_nil]; exact Reps.offL nl r1, q1, fun H2 v d k2 r2 q2 => ?_⟩
  cases d with
  | lst ds2 =>
    obtain ⟨q1, q2⟩ := q2
    obtain ⟨a, vs, rfl, ha, no, r⟩ := r2
    have h0 : H1 a = none := by
      cases e0 : H1 a with
      | none => rfl
      | some o =>
        have := k2.2 a o e0 fun z => no (.inl (F1.zo a z))
        rw [ha] at this
        cases this
        exact absurd (.inr ⟨_, e0⟩) no
    have r' := Reps.weak (O' := O) (fun a h => .inl h) r
    exact hq H2 a vs ds2 e1 (F1.keep k2) (F1.addO h0 k2 ⟨_, ha, .inl ⟨_, rfl⟩⟩) (s1.trans (k2.stab F1.zo)) (FF.back F1 s1 h0) (F1.new0 h0) (fun z => no (.inl z)) ha (Reps.off ha r.length q1 r') q2
  | _ => exact False.elim q2
theorem fv_cl {x : Str} {j k : Nat} {ps : List Str} {F : FD} {es : List Expr} {mr : MA} (d : DfOk X.prog X.w X.K X.mg X.base x ps j (spD X.K Tb F)) (hr : Room k X.A) (hjk : j ≤ k) (ha : AV X Tb (e :: es) mr) (hg : Gl X x := by rfl) (hdb : (x == ("__debug__" : Str)) = false := by decide)
    (he : starEach (e :: es) X.env = (false, eval e X.env) :: starEach es X.env := by rfl) (hpl : (backTo pos (starEach es X.env)).any (·.1) = false := by rfl) : FV X Tb (.Call (.Name x p) (e :: es) [] pos) (fCallN F mr) := by
  obtain ⟨f, fd, h, g, kp, b⟩ := d.ex
  exact fv_call h (hr.mono hjk) hg g kp b ha hdb he hpl
end
end DL

set_option Elab.async false
set_option linter.all false
set_option autoImplicit false
set_option maxRecDepth 100000
set_option maxHeartbeats 1000000
/-! DU: tuple(range(..)), list(range(a, b)), xs.index(i). -/
namespace DL
open PySem PySem.Spec PyProof.Rows L2
@[simp] def eTupR1 (a : ME) : ME := fun env P => a env fun x e1 => match x with
  | .int n => 0 ≤ n ∧ n ≤ LN ∧ P (.tup (intsD 0 n.toNat)) e1
  | _ => False
/-- the first place of i -/
def idxI (i : Int) : List Int → Option Nat
  | [] => none
  | x :: xs => if x = i then some 0 else (idxI i xs).map (· + 1)
@[simp] def eIndexL (a b : ME) : ME := fun env P => a env fun x e1 => match x with
  | .lst xs => b e1 fun y e2 => match y with
    | .int i => ∃ (ns : List Int) (j : Nat), xs = ns.map D.int ∧ idxI i ns = some j ∧ P (.int (j : Nat)) e2
    | _ => False
  | _ => False
theorem idxI_spec {i : Int} : ∀ {ns : List Int} {j : Nat}, idxI i ns = some j → ns[j]? = some i ∧ ∀ m x, m < j → ns[m]? = some x → x ≠ i
  | [], j, h => by simp [idxI] at h
  | y :: ns, j, h => by
    simp only [idxI] at h
    by_cases e : y = i
    · rw [if_pos e] at h
      injection h with h
      subst h
      exact ⟨by simp [e], fun m x hm => by omega⟩
    · rw [if_neg e] at h
      obtain ⟨k, hk, rfl⟩ := Option.map_eq_some_iff.mp h
      obtain ⟨h1, h2⟩ := idxI_spec hk
      refine ⟨by simpa using h1, fun m x hm hx => ?_⟩
      cases m with
      | zero => simp at hx; rw [← hx]; exact e
      | succ m => exact h2 m x (by omega) (by simpa using hx)
section
variable {X : Cx} {Tb : Addr → Prop} {e o : Expr} {m mo : ME} {pos p apos : Pos}
theorem ev_tupR1 {a : Expr} {p2 p3 : Pos} (hc : X.calm = true) (hg : Gl X "tuple") (hm : X.mg "tuple" = none) (hg2 : Gl X "range") (hm2 : X.mg "range" = none) (h : EV X Tb a m) (na : starEach [a] X.env = (false, eval a X.env) :: starEach [] X.env := by rfl)
    (nb : starEach [.Call (.Name "range" p2) [a] [] p3] X.env = (false, eval (.Call (.Name "range" p2) [a] [] p3) X.env) :: starEach [] X.env := by rfl) : EV X Tb (.Call (.Name "tuple" p) [.Call (.Name "range" p2) [a] [] p3] [] pos) (eTupR1 m) := by
  obtain ⟨t, pe, h⟩ := h.ex
  refine ⟨_, pe_tupRg hc hg hm (prg_1 hg2 hm2 pe na) nb, fun W Oc H0 O H σ env Q P F hm hq => ?_⟩
  refine h W Oc H0 O H σ env _ _ F hm fun H1 v d e1 F1 s1 r1 q1 => ?_
  cases d with
  | int n =>
    obtain ⟨h0, h1, q1⟩ := q1
    refine ⟨n, r1, RgOk.of_le (by omega) (by omega) (by omega) (by omega), fun q hqn => ?_⟩
    have e : rgV 0 n = (List.range n.toNat).map fun i => V.int (0 + (i : Nat)) := by
      unfold rgV
      have e : (n - 0).toNat = n.toNat := by omega
      rw [e]
    rw [e]
    exact hq _ _ _ e1 (F1.same (same_upd hqn)) (s1.trans (Stab.of (same_upd hqn))) (new_tup F1 (rgV_reps n.toNat 0) hqn) q1
  | _ => exact False.elim q1
theorem fv_listR2 {a b : Expr} {mb : ME} {p2 p3 : Pos} (hc : X.calm = true) (hg : Gl X "list") (hm : X.mg "list" = none) (hg2 : Gl X "range") (hm2 : X.mg "range" = none) (h : EV X Tb a m) (hb : EV X Tb b mb)
    (na : starEach [a, b] X.env = (false, eval a X.env) :: starEach [b] X.env := by rfl) (nb : starEach [b] X.env = (false, eval b X.env) :: starEach [] X.env := by rfl)
    (nc : starEach [.Call (.Name "range" p2) [a, b] [] p3] X.env = (false, eval (.Call (.Name "range" p2) [a, b] [] p3) X.env) :: starEach [] X.env := by rfl) (hp : (backTo p3 (starEach [b] X.env)).any (·.1) = false := by rfl) : FV X Tb (.Call (.Name "list" p) [.Call (.Name "range" p2) [a, b] [] p3] [] pos) (fListR2 m mb) := by
  obtain ⟨t, pe, h⟩ := h.ex
  obtain ⟨t2, pe2, h2⟩ := hb.ex
  refine fv_of (pe_listRg hc hg hm (prg_2 hg2 hm2 pe pe2 na nb hp) nc) fun W Oc H0 O H σ env Q P F hm hq => ?_
  refine h W Oc H0 O H σ env _ _ F hm fun H1 v d e1 F1 s1 r1 q1 => ?_
  refine h2 W Oc H0 O H1 σ e1 _ _ F1 q1 fun H2 v2 d2 e2 F2 s2 r2 q2 => ?_
  cases d with
  | int i =>
    cases d2 with
    | int j =>
      obtain ⟨⟨h0, h1, h3, h4⟩, q2⟩ := q2
      refine ⟨i, j, r1, r2, RgOk.of_le (by omega) (by omega) (by omega) (by omega), fun q hqn => ?_⟩
      exact hq H2 (rgV i j) _ e2 F2 (s1.trans s2) (rgV_reps (j - i).toNat i) q2 q hqn
    | _ => exact False.elim q2
  | _ => cases d2 <;> exact False.elim q2
theorem ev_lindex (hx : EV X Tb o mo) (h : EV X Tb e m) (hb : attributeBase o "index" X.env (eval o X.env) = eval o X.env := by rfl) (hl : (apos.endLine == pos.line) = true := by rfl) (he : starEach [e] X.env = (false, eval e X.env) :: starEach [] X.env := by rfl)
    (hfew : ((backTo pos (starEach [e] X.env)).all (fun x => !x.1) && (backToKw pos (keywordEach [] X.env)).all (fun x => x.1.isSome) && decide ([e].length + ([] : List Keyword).length + (if ([] : List Keyword).isEmpty then 0 else 1) < 30)) = true := by rfl) :
    EV X Tb (.Call (.Attribute o "index" apos) [e] [] pos) (eIndexL mo m) := by
  obtain ⟨to, po, ho⟩ := hx.ex
  obtain ⟨t, pe, h⟩ := h.ex
  refine ⟨_, pe_bm PySem.F.plainAttrs_list PySem.F.slot_list_index PySem.F.type_list_index mt_index po (pa_cons pe pa_nil he) hb hfew hl he, fun W Oc H0 O H σ env Q P F hm hq => ?_⟩
  refine ho W Oc H0 O H σ env _ _ F hm fun H1 v d e1 F1 s1 r1 q1 => ?_
  obtain ⟨xs, rfl⟩ : ∃ xs, d = .lst xs := by
    cases d with
    | lst xs => exact ⟨xs, rfl⟩
    | _ => exact False.elim q1
  obtain ⟨a, vs, rfl, qa, na, ra⟩ := id r1
  refine ⟨.inl ⟨rfl, vs, SqL.of qa⟩, ?_⟩
  refine h W Oc H0 O H1 σ e1 _ _ F1 q1 fun H2 v2 d2 e2 F2 s2 r2 q2 => ?_
  cases d2 with
  | int i =>
    obtain ⟨ns, j, rfl, hj, hp⟩ := q2
    have e := reps_intV ra
    subst e
    obtain ⟨h1, h2⟩ := idxI_spec hj
    have qa2 := s2 a _ qa na
    refine ⟨a, ns.map V.int, v2, j, .int i, rfl, rfl, SqL.of qa2, ?_, ?_, by rw [List.getElem?_map, h1]; rfl, ?_, fun m z hm hz => ?_, hq H2 _ (.int j) e2 F2 (s1.trans s2) rfl hp⟩
    · rw [show v2 = _ from r2]; rfl
    · rw [List.all_eq_true]; intro x hx; obtain ⟨y, _, rfl⟩ := List.mem_map.mp hx; rfl
    · rw [show v2 = _ from r2]; show (i == i) = true; simp
    · rw [List.getElem?_map] at hz
      obtain ⟨x, hx, rfl⟩ := Option.map_eq_some_iff.mp hz
      rw [show v2 = _ from r2]
      show (x == i) = false
      have := h2 m x hm hx
      simpa using this
  | _ => exact False.elim q2
end
end DL

set_option Elab.async false
set_option linter.all false
set_option autoImplicit false
set_option maxRecDepth 100000
set_option maxHeartbeats 2000000
/-! DPm0: itertools.permutations of a range, at the library's level. -/
namespace RPm
open PySem PySem.Spec PyProof.Rows
theorem mro_pm : mroOf (.type "itertools.permutations") = pure [.type "itertools.permutations", .type "object"] := by rw [mroOf_type]; kernel_rfl
theorem new_pm : typeLookup (.type "itertools.permutations") "__new__" = pure (some (.builtin "itertools.permutations.__new__")) := by rw [typeLookup_type, builtinLookup_eq_fast]; kernel_rfl
theorem sub_pm : isSubtype (.type "itertools.permutations") (.type "itertools.permutations") = pure true := by rw [isSubtype_type]; kernel_rfl
theorem init_pm : Slot "itertools.permutations" "__init__" "object.__init__" :=
  .of (owner := "object") (n := "__init__") (by rw [typeLookup_type, builtinLookup_eq_fast]; kernel_rfl) (by decide +kernel) (by decide +kernel) (by decide +kernel) (by first | exact .inl (by decide +kernel) | exact .inr (by decide +kernel)) (by rw [isSubtype_type]; kernel_rfl)
theorem called_pm : TypeCalled "itertools.permutations" "itertools.permutations.__new__" "object.__init__" :=
  ⟨by decide +kernel, by decide +kernel, ⟨_, _, mro_pm⟩, madeBy_type mro_pm new_pm (by decide +kernel), by decide +kernel, sub_pm, init_pm⟩
theorem tcall_pm (a : Value) : checkTypeCall "itertools.permutations" ⟨[a], []⟩ = pure () := by kernel_rfl
theorem ncall_pm (a : Value) : checkBuiltinCall "itertools.permutations.__new__" ⟨[.type "itertools.permutations", a], []⟩ = pure () := by kernel_rfl
theorem enew_pm : entryFor table "itertools.permutations.__new__" = some Builtin.«itertools.permutations.__new__» := entryFor_of_tree (by kernel_rfl)
theorem plain_pm : plainId "itertools.permutations.__new__" = true := by decide +kernel
theorem siter_pm : Slot "itertools.permutations" "__iter__" "itertools.permutations.__iter__" :=
  .of (owner := "itertools.permutations") (n := "__iter__") (by rw [typeLookup_type, builtinLookup_eq_fast]; kernel_rfl) (by decide +kernel) (by decide +kernel) (by decide +kernel) (by first | exact .inl (by decide +kernel) | exact .inr (by decide +kernel)) sub_pm
theorem snext_pm : Slot "itertools.permutations" "__next__" "itertools.permutations.__next__" :=
  .of (owner := "itertools.permutations") (n := "__next__") (by rw [typeLookup_type, builtinLookup_eq_fast]; kernel_rfl) (by decide +kernel) (by decide +kernel) (by decide +kernel) (by first | exact .inl (by decide +kernel) | exact .inr (by decide +kernel)) sub_pm
theorem eiter_pm : entryFor table "itertools.permutations.__iter__" = some Builtin.«dict_keyiterator.__iter__» :=
  entryFor_alias (id' := "dict_keyiterator.__iter__") (by kernel_rfl) (by first | rfl | decide +kernel | (unfold String.splitOn; simp +decide [String.splitOnAux])) (by decide +kernel) (by kernel_rfl)
theorem enext_pm : entryFor table "itertools.permutations.__next__" = some Builtin.«itertools.permutations.__next__» := entryFor_of_tree (by kernel_rfl)
theorem owner_pm : Manifest.owners.lookup (String.ofList ['s', 'n', 'o', 'i', 't', 'a', 't', 'u', 'm', 'r', 'e', 'p', '.', 's', 'l', 'o', 'o', 't', 'r', 'e', 't', 'i'].reverse) = some Manifest.sig_itertools_permutations := by kernel_rfl
theorem aiter_pm (a : Value) : argsOk "itertools.permutations.__iter__" ⟨[a], []⟩ := by
  unfold argsOk; rw [signature?_of (id := "itertools.permutations.__iter__") (n := ['_', '_', 'r', 'e', 't', 'i', '_', '_']) (o := ['s', 'n', 'o', 'i', 't', 'a', 't', 'u', 'm', 'r', 'e', 'p', '.', 's', 'l', 'o', 'o', 't', 'r', 'e', 't', 'i']) (by kernel_rfl) owner_pm]; kernel_rfl
theorem anext_pm (a : Value) : argsOk "itertools.permutations.__next__" ⟨[a], []⟩ := by
  unfold argsOk; rw [signature?_of (id := "itertools.permutations.__next__") (n := ['_', '_', 't', 'x', 'e', 'n', '_', '_']) (o := ['s', 'n', 'o', 'i', 't', 'a', 't', 'u', 'm', 'r', 'e', 'p', '.', 's', 'l', 'o', 'o', 't', 'r', 'e', 't', 'i']) (by kernel_rfl) owner_pm]; kernel_rfl
theorem hasNo_pm : typeHasDict (.type "itertools.permutations") = false := by decide +kernel
end RPm

set_option Elab.async false
set_option linter.all false
set_option autoImplicit false
set_option maxRecDepth 100000
set_option maxHeartbeats 2000000
namespace RPm
open PySem PySem.Spec PyProof.Rows L2
/-- the record's fields: the pool, the state, how many, the last one, places and turns -/
def pmF (T last : Value) (f : Int) (n : Nat) (nums : List Nat) : Array Value := ([T, rawInt f, rawInt (n : Int), last] ++ nums.map (fun k : Nat => rawInt (k : Int))).toArray
def IsPm (h : Heap) (it T : Addr) (last : Value) (f : Int) (n : Nat) (nums : List Nat) : Prop := h.get? it = some { cls := .type "itertools.permutations", dict := none, data := .fields (pmF (.ref T) last f n nums), slots := #[] }
section
variable {prog : Program} {w : World} {A : Around} {E : Value → Shared → Prop} {s : Shared} {r : Addr} {a b c : Int} {t u v : Tok} {n : Nat}
theorem code_pm {Q₁ : Value → Shared → Prop} (hh : A.handled = none) (hr : IsRange s.heap r a b c t u v) (hsmall : Builtin.Range.small a b c = true) (hn : Builtin.Range.rangeSize a b c = n) (hlen : n ≤ 1000)
    (h : ∀ (h' : Heap) (tk : Nat) (acc : Array Value), (∀ b o, s.heap.get? b = some o → h'.get? b = some o) → ItemsOf (fun i v => ∃ t, v = .int (a + i * c) t) acc n →
      Q₁ (.ref (h'.push { cls := .type "tuple", data := .seq acc }).objs.size) { s with heap := (h'.push { cls := .type "tuple", data := .seq acc }).push { cls := .type "itertools.permutations", data := .fields (pmF (.ref h'.objs.size) .none 0 n (List.range n ++ (List.range n).map fun i => n - i)) }, toks := tk }) :
    codeAny (model prog w) A (.call (.builtin "itertools.permutations.__new__") ⟨[.type "itertools.permutations", .ref r], []⟩) (wants Q₁ E) s := by
  refine codeAny_of_tree ?_
  show wpAny _ A.in1 (do checkBuiltinCall "itertools.permutations.__new__" ⟨[.type "itertools.permutations", .ref r], []⟩; again (.builtin "itertools.permutations.__new__" ⟨[.type "itertools.permutations", .ref r], []⟩)) _ _ s
  refine wpAny_bind (wpAny_of_eq (ncall_pm _) (wpAny_pure ⟨plainId_quiet plain_pm _, codeAny_builtin enew_pm ?_⟩))
  rw [Around.under_plainId plain_pm _]
  have hsub := sub_pm
  have hd := hasNo_pm
  have hTI : s.TypeIs (.ref r) "range" := ⟨_, hr, rfl⟩
  have hh1 : A.in1.handled = none := hh
  repeat (first
      | wp_step
      | simp only [List.head?_cons, Option.some_or, List.getElem?_cons_succ, List.getElem?_cons_zero, List.length_cons, List.length_nil, List.forIn_nil]
      )
  have hcat : ("itertools." ++ "permutations" : String) = "itertools.permutations" := by decide +kernel
  rw [hcat]
  refine wpAny_of_eq sub_pm ?_
  rw [if_neg (by decide)]
  refine wpAny_pure ?_
  have hbind : Builtin.Itertools.itBindNamed "permutations" ["iterable", "r"] 1 2 [Value.ref r] [] = pure [some (Value.ref r), none] := by first | rfl | kernel_rfl
  refine wpAny_bind (wpAny_of_eq hbind ?_)
  dsimp only
  refine wpAny_bind (collect_range (A := A.in1) hh1 hr hsmall hn (by omega) fun h' tk acc hk hacc => ?_)
  dsimp only [Option.getD]
  have hl : acc.toList.length = n := by rw [Array.length_toList]; exact hacc.1
  rw [hl]
  refine wpAny_bind (wpAny_pure ?_)
  rw [if_neg (by omega)]
  have htm : Builtin.Itertools.itTooMany (n : Int) = false := by
    unfold Builtin.Itertools.itTooMany
    exact decide_eq_false (by omega)
  rw [htm, if_neg (by decide)]
  refine wpAny_bind (wpAny_newTuple ?_ (by rw [hl, sizeLine_eq]; omega))
  have e1 : (if (n : Int).toNat > n then 2 else 0 : Int) = 0 := if_neg (by omega)
  rw [e1, Int.toNat_natCast]
  have ea : acc.toList.toArray = acc := by simp
  rw [ea]
  refine wpAny_bind ?_
  unfold Builtin.Itertools.itNewRecord
  rw [hd, if_pos (by decide)]
  have em : [Value.ref h'.objs.size, rawInt 0, rawInt (n : Int), Value.none] ++ List.map (fun i : Nat => rawInt (i : Int)) (List.range n) ++ List.map (fun i : Nat => rawInt ((n : Int) - (i : Int))) (List.range n)
      = [Value.ref h'.objs.size, rawInt 0, rawInt (n : Int), Value.none] ++ (List.range n ++ (List.range n).map fun i => n - i).map (fun k : Nat => rawInt (k : Int)) := by
    rw [List.append_assoc, List.map_append, List.map_map]
    congr 2
    apply List.map_congr_left
    intro i hi
    have := List.mem_range.mp hi
    show rawInt ((n : Int) - (i : Int)) = rawInt (((n - i : Nat)) : Int)
    congr 1
    omega
  rw [em]
  refine wpAny_newObj_type ?_ ?_
  · refine wpAny_pure ?_
    exact h h' tk acc hk hacc
  · show ([Value.ref h'.objs.size, rawInt 0, rawInt (n : Int), Value.none] ++ (List.range n ++ (List.range n).map fun i => n - i).map (fun k : Nat => rawInt (k : Int))).toArray.size ≤ _
    have h0 := sizeLine_eq
    simp
    omega

/-- the next places and turns; k places are still to be looked at -/
def pnx (n : Nat) : Nat → List Nat → List Nat → Option (List Nat × List Nat)
  | 0, _, _ => none
  | k + 1, xs, cs =>
    let j := cs.getD k 0 - 1
    if j == 0 then pnx n k (xs.take k ++ xs.drop (k + 1) ++ [xs.getD k 0]) (cs.set k (n - k))
    else some ((xs.set k (xs.getD (n - j) 0)).set (n - j) (xs.getD k 0), cs.set k j)
theorem nums_pm {Q : List Nat → Shared → Prop} {it T : Addr} {last : Value} {f : Int} {n : Nat} {nums : List Nat} (hz : IsPm s.heap it T last f n nums) (h : Q nums s) : wpAny (model prog w) A (Builtin.Itertools.itNumbersFrom (.ref it) 4) Q E s := by
  unfold Builtin.Itertools.itNumbersFrom
  show wpAny _ _ (load it >>= _) _ _ _
  refine wpAny_bind (wpAny_load hz ?_)
  show wpAny _ _ (pure (List.map _ (List.drop 4 (pmF (.ref T) last f n nums).toList))) _ _ _
  refine wpAny_pure ?_
  have e : List.drop 4 (pmF (.ref T) last f n nums).toList = nums.map (fun k : Nat => rawInt (k : Int)) := by simp [pmF]
  rw [e]
  have e2 : ∀ g : Value → Nat, (∀ k : Nat, g (rawInt (k : Int)) = k) → (nums.map fun k : Nat => rawInt (k : Int)).map g = nums := fun g hg => by
    rw [List.map_map]
    exact (List.map_congr_left (g := id) fun k _ => hg k).trans (List.map_id _)
  rw [e2 _ fun k => Int.toNat_natCast k]
  exact h
theorem setNums_pm {Q : Unit → Shared → Prop} {it T : Addr} {last : Value} {f : Int} {n : Nat} {nums new : List Nat} (hz : IsPm s.heap it T last f n nums) (hl : new.length ≤ 2000)
    (h : ∀ h', IsPm h' it T last f n new → Heap.SameBut it s.heap h' → Q () { s with heap := h' }) : wpAny (model prog w) A (Builtin.Itertools.itSetNumbersFrom (.ref it) 4 new) Q E s := by
  unfold Builtin.Itertools.itSetNumbersFrom
  have e : (pmF (.ref T) last f n nums).extract 0 4 ++ (new.map fun (n : Nat) => rawInt n).toArray = pmF (.ref T) last f n new := by
    apply Array.ext'
    simp [pmF]
  show wpAny _ _ (updateFields it _) _ _ _
  refine wpAny_updateFields hz rfl (h _ ?_ (Heap.SameBut.update ..)) ?_
  · refine (Heap.get?_update_self _ hz rfl).trans ?_
    show some ({ cls := .type "itertools.permutations", dict := none, data := .fields ((pmF (.ref T) last f n nums).extract 0 4 ++ (new.map fun (n : Nat) => rawInt n).toArray), slots := #[] } : Obj) = _
    rw [e]
  · show ((pmF (.ref T) last f n nums).extract 0 4 ++ (new.map fun (n : Nat) => rawInt n).toArray).size ≤ _
    rw [e]
    have h0 := sizeLine_eq
    simp [pmF]
    omega
theorem setFlag_pm {Q : Unit → Shared → Prop} {it T : Addr} {last : Value} {f f' : Int} {n : Nat} {nums : List Nat} (hz : IsPm s.heap it T last f n nums)
    (h : ∀ h', IsPm h' it T last f' n nums → Heap.SameBut it s.heap h' → Q () { s with heap := h' }) : wpAny (model prog w) A (setField (.ref it) 1 (rawInt f')) Q E s :=
  wpAny_setField_rec hz (by simp [pmF]) fun h' z sb => h h' (by simpa [pmF, IsPm] using z) sb
theorem setLast_pm {Q : Unit → Shared → Prop} {it T : Addr} {last l' : Value} {f : Int} {n : Nat} {nums : List Nat} (hz : IsPm s.heap it T last f n nums)
    (h : ∀ h', IsPm h' it T l' f n nums → Heap.SameBut it s.heap h' → Q () { s with heap := h' }) : wpAny (model prog w) A (setField (.ref it) 3 l') Q E s :=
  wpAny_setField_rec hz (by simp [pmF]) fun h' z sb => h h' (by simpa [pmF, IsPm] using z) sb
/-- the items at places -/
def pickV (items : Array Value) (xs : List Nat) : List Value := xs.map fun i => items.getD i .none
theorem give_pm {Q : Fin → Shared → Prop} {it T : Addr} {last : Value} {f : Int} {n : Nat} {nums xs : List Nat} {items : Array Value} (hz : IsPm s.heap it T last f n nums) (hx : xs.length ≤ 1000)
    (h : ∀ h', IsPm h' it T (.ref s.heap.objs.size) f n nums → h'.get? s.heap.objs.size = some { cls := .type "tuple", data := .seq (pickV items xs).toArray } → (∀ c o, c ≠ it → s.heap.get? c = some o → h'.get? c = some o) → Q (.done (.ret (.ref s.heap.objs.size))) { s with heap := h' }) :
    wpAny (model prog w) A (do
        let t ← newTuple (pickV items xs)
        let before ← field (Value.ref it) 3
        setField (Value.ref it) 3 t
        letGo [before] [t]
        ret t) Q E s := by
  have h0 := sizeLine_eq
  refine wpAny_bind (wpAny_newTuple ?_ (by simp [pickV]; omega))
  have hz1 : IsPm (s.heap.push { cls := .type "tuple", data := .seq (pickV items xs).toArray }) it T last f n nums := Heap.get?_push_of_some _ hz
  refine wpAny_bind (wpAny_field hz1 rfl (x := last) (by simp [pmF]) ?_)
  refine wpAny_bind (setLast_pm hz1 fun h' hz' sb => ?_)
  refine wpAny_bind (wpAny_letGo (wpAny_pure ?_))
  refine h h' hz' ((sb.2 _ (Nat.ne_of_gt (Heap.lt_size hz))).trans (Heap.get?_push_size _ rfl)) fun c o hc e => (sb.2 c hc).trans (Heap.get?_push_of_some _ e)
theorem pnx_of {n : Nat} {F : Nat → List Nat → List Nat → Option (List Nat × List Nat)} (h0 : ∀ a b, F 0 a b = none)
    (h1 : ∀ k a b, F (k + 1) a b = if (b.getD k 0 - 1 == 0) = true then F k (a.take k ++ a.drop (k + 1) ++ [a.getD k 0]) (b.set k (n - k))
      else some ((a.set k (a.getD (n - (b.getD k 0 - 1)) 0)).set (n - (b.getD k 0 - 1)) (a.getD k 0), b.set k (b.getD k 0 - 1))) : ∀ k a b, F k a b = pnx n k a b
  | 0, a, b => h0 a b
  | k + 1, a, b => by
    rw [h1, pnx, pnx_of h0 h1 k]
theorem next_pm {Q : Fin → Shared → Prop} {it T : Addr} {last : Value} {f : Int} {n : Nat} {xs cs : List Nat} {items : Array Value} (hz : IsPm s.heap it T last f n (xs ++ cs)) (hT : s.heap.IsTuple T items) (hn : items.size = n) (hxl : xs.length = n) (hcl : cs.length = n) (hsm : n ≤ 1000) (hn1 : 0 < n)
    (h0 : f = 0 → ∀ h', IsPm h' it T (.ref s.heap.objs.size) 1 n (xs ++ cs) → h'.get? s.heap.objs.size = some { cls := .type "tuple", data := .seq (pickV items xs).toArray } → (∀ c o, c ≠ it → s.heap.get? c = some o → h'.get? c = some o) → Q (.done (.ret (.ref s.heap.objs.size))) { s with heap := h' })
    (h1 : f = 1 → ∀ xs' cs', pnx n n xs cs = some (xs', cs') → xs'.length = n ∧ cs'.length = n ∧ ∀ h', IsPm h' it T (.ref s.heap.objs.size) 1 n (xs' ++ cs') → h'.get? s.heap.objs.size = some { cls := .type "tuple", data := .seq (pickV items xs').toArray } → (∀ c o, c ≠ it → s.heap.get? c = some o → h'.get? c = some o) → Q (.done (.ret (.ref s.heap.objs.size))) { s with heap := h' })
    (h2 : f = 1 → pnx n n xs cs = none → A.handled = none ∧ ∀ h' e, (∀ c o, c ≠ it → s.heap.get? c = some o → h'.get? c = some o) → (∃ o, h'.get? e = some o ∧ o.cls = .type "StopIteration") → E (.ref e) { s with heap := h' }) (hf : f = 0 ∨ f = 1) :
    wpAny (model prog w) A (Builtin.«itertools.permutations.__next__» ⟨[.ref it], []⟩) Q E s := by
  show wpAny _ _ (field (.ref it) 0 >>= _) _ _ _
  refine wpAny_bind (wpAny_field hz rfl (x := .ref T) (by simp [pmF]) ?_)
  obtain ⟨ol, hol, _, nl, hdl⟩ := hT
  refine wpAny_bind ?_
  unfold Builtin.Itertools.itPoolItems
  refine wpAny_bind (wpAny_seqItems hol hdl (wpAny_pure ?_))
  refine wpAny_bind ?_
  unfold Builtin.Itertools.itIntField
  refine wpAny_bind (wpAny_field hz rfl (x := rawInt (n : Int)) (by simp [pmF]) (wpAny_pure ?_))
  refine wpAny_bind (nums_pm hz ?_)
  refine wpAny_bind (wpAny_bind (wpAny_field hz rfl (x := rawInt f) (by simp [pmF]) (wpAny_pure ?_)))
  rw [hn, Int.toNat_natCast]
  have ht : List.take n (xs ++ cs) = xs := by rw [← hxl]; simp
  have hd : List.drop n (xs ++ cs) = cs := by rw [← hxl]; simp
  rw [ht, hd]
  rcases hf with rfl | rfl
  · refine wpAny_bind (setFlag_pm (f' := 1) hz fun h' hz' sb => ?_)
    dsimp only
    have ht2 : List.take n xs = xs := by rw [← hxl]; simp
    rw [ht]
    have hsz : h'.objs.size = s.heap.objs.size := sb.1
    refine give_pm (s := { s with heap := h' }) (items := items) (xs := xs) hz' (by omega) fun h'' z'' t'' k'' => ?_
    rw [show (Shared.heap { s with heap := h' }) = h' from rfl] at z'' t'' k''
    rw [hsz] at z'' t''
    rw [show (Shared.heap { s with heap := h' }) = h' from rfl, hsz]
    exact h0 rfl h'' z'' t'' fun c o hc e => k'' c o hc ((sb.2 c hc).trans e)
  · dsimp only
    obtain ⟨m, rfl⟩ : ∃ m, n = m + 1 := ⟨n - 1, by omega⟩
    split
    · rename_i h01
      exact absurd h01 (by decide)
    rotate_left
    · rename_i n0 n1
      exact absurd rfl n1
    split
    · rename_i xs' cs' heq
      have heq' : pnx (m + 1) (m + 1) xs cs = some (xs', cs') := (pnx_of (fun _ _ => rfl) (fun _ _ _ => rfl) (m + 1) xs cs).symm.trans heq
      obtain ⟨l1, l2, hq⟩ := h1 rfl xs' cs' heq'
      refine wpAny_bind (setNums_pm (new := xs' ++ cs') hz (by simp; omega) fun h' hz' sb => ?_)
      have hsz : h'.objs.size = s.heap.objs.size := sb.1
      have htk : List.take (m + 1) xs' = xs' := by rw [← l1]; simp
      rw [htk]
      refine give_pm (s := { s with heap := h' }) (items := items) (xs := xs') hz' (by omega) fun h'' z'' t'' k'' => ?_
      rw [show (Shared.heap { s with heap := h' }) = h' from rfl] at z'' t'' k''
      rw [hsz] at z'' t''
      rw [show (Shared.heap { s with heap := h' }) = h' from rfl, hsz]
      exact hq h'' z'' t'' fun c o hc e => k'' c o hc ((sb.2 c hc).trans e)
    · rename_i heq
      have heq' : pnx (m + 1) (m + 1) xs cs = none := (pnx_of (fun _ _ => rfl) (fun _ _ _ => rfl) (m + 1) xs cs).symm.trans heq
      obtain ⟨hh, hE⟩ := h2 rfl heq'
      refine wpAny_bind (setFlag_pm (f' := 2) hz fun h' hz' sb => ?_)
      unfold Builtin.Itertools.itStop
      show wpAny _ _ (newExc (.type "StopIteration") [] >>= _) _ _ _
      refine wpAny_bind ?_
      simp only [newExc, newTuple]
      refine wpAny_bind (wpAny_newObj_type ?_ (by size_fits))
      refine wpAny_bind (m := firstArgMember _ _) (wpAny_of_eq (a := Value.none) (by first | rfl | (simp only [firstArgMember]; rfl)) ?_)
      refine wpAny_newObj_type ?_ (by size_fits)
      simp only [raiseNew]
      refine wpAny_bind (wpAny_handled ?_)
      first | rw [show A.in1.handled = none from hh] | rw [hh]
      refine wpAny_bind (wpAny_pure (wpAny_throw ?_))
      exact hE _ _ (fun c o hc e => Heap.get?_push_of_some _ (Heap.get?_push_of_some _ ((sb.2 c hc).trans e))) ⟨_, Heap.get?_push_size _ rfl, rfl⟩
theorem item_pm {Q : Option Value → Shared → Prop} {it T : Addr} {last : Value} {f : Int} {n : Nat} {xs cs : List Nat} {items : Array Value} (hz : IsPm s.heap it T last f n (xs ++ cs)) (hT : s.heap.IsTuple T items) (hn : items.size = n) (hxl : xs.length = n) (hcl : cs.length = n) (hsm : n ≤ 1000) (hn1 : 0 < n)
    {xs' cs' : List Nat} (hst : (f = 0 ∧ xs' = xs ∧ cs' = cs) ∨ (f = 1 ∧ pnx n n xs cs = some (xs', cs') ∧ xs'.length = n ∧ cs'.length = n))
    (h : ∀ h', IsPm h' it T (.ref s.heap.objs.size) 1 n (xs' ++ cs') → h'.get? s.heap.objs.size = some { cls := .type "tuple", data := .seq (pickV items xs').toArray } → (∀ c o, c ≠ it → s.heap.get? c = some o → h'.get? c = some o) → Q (some (.ref s.heap.objs.size)) { s with heap := h' }) :
    wpAny (model prog w) A (pyNext (.ref it)) Q E s := by
  have hT' : s.TypeIs (.ref it) "itertools.permutations" := ⟨_, hz, rfl⟩
  unfold pyNext
  refine wpAny_bind (wpAny_attempt (wpAny_callSpecial?_slot (name := Str.ofString "__next__") hT' snext_pm
    (wpAny_call_entry snext_pm hT' enext_pm (next_pm hz hT hn hxl hcl hsm hn1 (fun e h' a b c => ?_) (fun e xs2 cs2 he => ?_) (fun e he => ?_) ?_) (anext_pm _))))
  · rcases hst with ⟨_, rfl, rfl⟩ | ⟨e2, _⟩
    · exact ⟨_, rfl, wpAny_pure (h h' a b c)⟩
    · omega
  · rcases hst with ⟨e2, _⟩ | ⟨_, e2, l1, l2⟩
    · omega
    · rw [he] at e2
      injection e2 with e2
      injection e2 with e3 e4
      subst e3 e4
      exact ⟨l1, l2, fun h' a b c => ⟨_, rfl, wpAny_pure (h h' a b c)⟩⟩
  · rcases hst with ⟨e2, _⟩ | ⟨_, e2, _⟩
    · omega
    · rw [he] at e2; cases e2
  · rcases hst with ⟨e2, _⟩ | ⟨e2, _⟩
    · exact .inl e2
    · exact .inr e2
theorem end_pm {Q : Option Value → Shared → Prop} {it T : Addr} {last : Value} {n : Nat} {xs cs : List Nat} {items : Array Value} (hh : A.handled = none) (hz : IsPm s.heap it T last 1 n (xs ++ cs)) (hT : s.heap.IsTuple T items) (hn : items.size = n) (hxl : xs.length = n) (hcl : cs.length = n) (hsm : n ≤ 1000) (hn1 : 0 < n)
    (he : pnx n n xs cs = none) (h : ∀ h', (∀ c o, c ≠ it → s.heap.get? c = some o → h'.get? c = some o) → Q none { s with heap := h' }) :
    wpAny (model prog w) A (pyNext (.ref it)) Q E s := by
  have hT' : s.TypeIs (.ref it) "itertools.permutations" := ⟨_, hz, rfl⟩
  unfold pyNext
  refine wpAny_bind (wpAny_attempt (wpAny_callSpecial?_slot (name := Str.ofString "__next__") hT' snext_pm
    (wpAny_call_entry snext_pm hT' enext_pm (next_pm hz hT hn hxl hcl hsm hn1 (fun e => by omega) (fun e xs2 cs2 he2 => by rw [he] at he2; cases he2) (fun e _ => ⟨hh, fun h' ex k ho => ?_⟩) (.inr rfl)) (anext_pm _))))
  obtain ⟨o, ho, hc⟩ := ho
  refine wpAny_bind (wpAny_isInstance (T := "StopIteration") (b := true) ⟨o, ho, hc⟩ isSubtype_stop ?_)
  exact wpAny_pure (h _ k)
theorem self_pm {it T : Addr} {last : Value} {f : Int} {n : Nat} {nums : List Nat} {Q : Value → Shared → Prop} (hz : IsPm s.heap it T last f n nums) (h : Q (.ref it) s) : wpAny (model prog w) A (pyIter (.ref it)) Q E s := by
  have hT : s.TypeIs (.ref it) "itertools.permutations" := ⟨_, hz, rfl⟩
  refine wpAny_pyIter_slot hT siter_pm (wpAny_call_entry siter_pm hT eiter_pm ?_ (aiter_pm _))
  show wpAny _ _ (ret (.ref it)) _ _ s
  exact wpAny_pure ⟨_, rfl, "itertools.permutations", _, hT, snext_pm.lookup, h⟩
theorem call_pm {Q : Value → Shared → Prop} (hh : A.handled = none) (hr : IsRange s.heap r a b c t u v) (hsmall : Builtin.Range.small a b c = true) (hn : Builtin.Range.rangeSize a b c = n) (hlen : n ≤ 1000)
    (hQ : ∀ (h1 h2 : Heap) (tk : Nat) (acc : Array Value), (∀ b o, s.heap.get? b = some o → h1.get? b = some o) → (∀ b o, h1.get? b = some o → h2.get? b = some o) → ItemsOf (fun i v => ∃ t, v = .int (a + i * c) t) acc n → h2.IsTuple h1.objs.size acc →
      IsPm h2 (h1.objs.size + 1) h1.objs.size .none 0 n (List.range n ++ (List.range n).map fun i => n - i) → Q (.ref (h1.objs.size + 1)) { s with heap := h2, toks := tk }) :
    wpAny (model prog w) A (call (.type "itertools.permutations") [.ref r]) Q E s := by
  refine callType_codes (Q₁ := fun obj s₁ => s₁.TypeIs obj "itertools.permutations" ∧ Q obj s₁) called_pm (tcall_pm _) F.entry_object_init
    (code_pm (A := A.in1) hh hr hsmall hn hlen fun h' tk acc hk hacc => ⟨⟨_, Heap.get?_push_size _ rfl, rfl⟩, ?_⟩) fun obj s₁ h₁ => ?_
  · have e : (h'.push { cls := .type "tuple", data := .seq acc }).objs.size = h'.objs.size + 1 := Heap.size_push ..
    have z : IsPm ((h'.push { cls := .type "tuple", data := .seq acc }).push { cls := .type "itertools.permutations", data := .fields (pmF (.ref h'.objs.size) .none 0 n (List.range n ++ (List.range n).map fun i => n - i)) }) (h'.push { cls := .type "tuple", data := .seq acc }).objs.size h'.objs.size .none 0 n (List.range n ++ (List.range n).map fun i => n - i) := Heap.get?_push_size _ rfl
    rw [e] at z ⊢
    exact hQ h' _ tk acc hk (fun b o q => Heap.get?_push_of_some _ (Heap.get?_push_of_some _ q)) hacc ⟨_, Heap.get?_push_of_some _ (Heap.get?_push_size _ rfl), rfl, _, rfl⟩ z
  · exact ⟨h₁.1, F.args_object_init_2 obj _, object_init_meets called_pm.init.lookup called_pm.made (by decide) prog w A.in1 _ s₁ ⟨h₁.1, rfl, h₁.2⟩⟩
end
end RPm

set_option Elab.async false
set_option linter.all false
set_option autoImplicit false
set_option maxRecDepth 100000
set_option maxHeartbeats 2000000
/-! DPm2: permutations, turn by turn. -/
namespace RPm
open PySem PySem.Spec PyProof.Rows L2
def pst (n : Nat) : Nat → Option (List Nat × List Nat)
  | 0 => some (List.range n, (List.range n).map fun i => n - i)
  | k + 1 => (pst n k).bind fun p => pnx n n p.1 p.2
structure POk (n : Nat) (p : List Nat × List Nat) : Prop where
  l1 : p.1.length = n
  l2 : p.2.length = n
  lt : ∀ x ∈ p.1, x < n
theorem mem_set' {α : Type} {xs : List α} {i : Nat} {a x : α} (h : x ∈ xs.set i a) : x ∈ xs ∨ x = a := by
  rcases List.mem_or_eq_of_mem_set h with h | h
  · exact .inl h
  · exact .inr h
theorem getD_lt {n : Nat} (hn : 0 < n) {xs : List Nat} (h : ∀ x ∈ xs, x < n) (k : Nat) : xs.getD k 0 < n := by
  rw [List.getD_eq_getElem?_getD]
  by_cases hk : k < xs.length
  · rw [List.getElem?_eq_getElem hk]
    exact h _ (List.getElem_mem hk)
  · rw [List.getElem?_eq_none (by omega)]; exact hn
theorem pnx_ok {n : Nat} (hn : 0 < n) : ∀ (k : Nat) (p q : List Nat × List Nat), k ≤ n → POk n p → pnx n k p.1 p.2 = some q → POk n q
  | 0, p, q, _, _, h => by cases h
  | k + 1, p, q, hk, hp, h => by
    rw [pnx] at h
    by_cases hj : (p.2.getD k 0 - 1 == 0) = true
    · rw [if_pos hj] at h
      refine pnx_ok hn k (p.1.take k ++ p.1.drop (k + 1) ++ [p.1.getD k 0], p.2.set k (n - k)) q (by omega) ⟨?_, ?_, ?_⟩ h
      · have := hp.l1
        simp; omega
      · simpa using hp.l2
      · intro x hx
        rcases List.mem_append.mp hx with hx | hx
        · rcases List.mem_append.mp hx with hx | hx
          · exact hp.lt x (List.mem_of_mem_take hx)
          · exact hp.lt x (List.mem_of_mem_drop hx)
        · rw [List.mem_singleton.mp hx]; exact getD_lt hn hp.lt k
    · rw [if_neg hj] at h
      injection h with h
      subst h
      refine ⟨by simpa using hp.l1, by simpa using hp.l2, fun x hx => ?_⟩
      rcases mem_set' hx with hx | hx
      · rcases mem_set' hx with hx | hx
        · exact hp.lt x hx
        · rw [hx]; exact getD_lt hn hp.lt _
      · rw [hx]; exact getD_lt hn hp.lt _
theorem pst_ok {n : Nat} (hn : 0 < n) : ∀ (i : Nat) (p : List Nat × List Nat), pst n i = some p → POk n p
  | 0, p, h => by
    injection h with h
    subst h
    exact ⟨by simp, by simp, fun x hx => List.mem_range.mp hx⟩
  | i + 1, p, h => by
    rw [pst] at h
    obtain ⟨q, hq, h⟩ := Option.bind_eq_some_iff.mp h
    exact pnx_ok hn n q p (Nat.le_refl _) (pst_ok hn i q hq) h
def ItPm (n : Nat) : It := ⟨fun i _ => ∃ p, pst n i = some p, fun i H v H' => ∃ T p, v = .ref T ∧ H T = none ∧ H' = upd H T (.tup (p.1.map fun k : Nat => V.int (k : Int))) ∧ pst n i = some p, fun i _ => pst n i = none⟩
def TnPm (n : Nat) (it T : Addr) (i : Nat) (h : Heap) : Prop := ∃ acc last, h.IsTuple T acc ∧ ItemsOf (fun i v => ∃ t, v = .int (i : Int) t) acc n ∧
  ((i = 0 ∧ IsPm h it T last 0 n (List.range n ++ (List.range n).map fun i => n - i)) ∨ ∃ k p, i = k + 1 ∧ pst n k = some p ∧ IsPm h it T last 1 n (p.1 ++ p.2))
theorem tnPm_at {n : Nat} {it T : Addr} {i : Nat} {h h' : Heap} (st : TnPm n it T i h) (k1 : ∀ o, h.get? it = some o → h'.get? it = some o) (k2 : ∀ o, h.get? T = some o → h'.get? T = some o) : TnPm n it T i h' := by
  obtain ⟨acc, last, hT, hi, st⟩ := st
  obtain ⟨o, e, c⟩ := hT
  refine ⟨acc, last, ⟨o, k2 o e, c⟩, hi, ?_⟩
  rcases st with ⟨e1, z⟩ | ⟨k, p, e1, e2, z⟩
  · exact .inl ⟨e1, k1 _ z⟩
  · exact .inr ⟨k, p, e1, e2, k1 _ z⟩
theorem pick_vals {n : Nat} {acc : Array Value} (hi : ItemsOf (fun i v => ∃ t, v = .int (i : Int) t) acc n) : ∀ xs : List Nat, (∀ x ∈ xs, x < n) → Vals (xs.map fun k : Nat => V.int (k : Int)) (pickV acc xs)
  | [], _ => .nil
  | x :: xs, h => by
    have hx := h x (List.mem_cons_self ..)
    have hlt : x < acc.size := by rw [hi.1]; exact hx
    obtain ⟨t, ht⟩ := hi.2 x acc[x] (Array.getElem?_eq_getElem hlt)
    refine .cons ⟨t, ?_⟩ (pick_vals hi xs fun y hy => h y (List.mem_cons_of_mem _ hy))
    show acc.getD x .none = _
    rw [Array.getD_eq_getD_getElem?, Array.getElem?_eq_getElem hlt]
    exact ht
theorem turn_pm {P : Program} {w : World} {K : PySem.W.Frag} {tg : Expr} {n : Nat} {it T : Addr} (hn : 0 < n) (hn2 : n ≤ 1000) (hne : T ≠ it) : Turn P w K tg (ItPm n) [it, T] it (TnPm n it T) where
  mem := by simp
  obj := fun i h st c hc => by
    obtain ⟨acc, last, ⟨o, e, c1, k, d⟩, hi, st⟩ := st
    have e' : c = it ∨ c = T := by simpa using hc
    rcases e' with q | q
    · rw [q]
      rcases st with ⟨e1, z⟩ | ⟨k, p, e1, e2, z⟩
      · exact ⟨_, z, fun v q => nomatch q⟩
      · exact ⟨_, z, fun v q => nomatch q⟩
    · rw [q]; exact ⟨o, e, fun v q => by rw [d] at q; cases q⟩
  keep := fun i h h' st k => tnPm_at st (fun o e => k it (by simp) o e) fun o e => k T (by simp) o e
  item := by
    intro X hP hw hK hc i pins s σ H E I hf st hg
    subst hP hw hK
    obtain ⟨q, hq⟩ := hg
    obtain ⟨acc, last, hT, hi, st⟩ := st
    have hq' := pst_ok hn i q hq
    have key : ∃ f xs cs, IsPm s.heap it T last f n (xs ++ cs) ∧ xs.length = n ∧ cs.length = n ∧ ((f = 0 ∧ q.1 = xs ∧ q.2 = cs) ∨ (f = 1 ∧ pnx n n xs cs = some (q.1, q.2) ∧ q.1.length = n ∧ q.2.length = n)) := by
      rcases st with ⟨e1, z⟩ | ⟨k, p, e1, e2, z⟩
      · subst e1
        injection hq with hq
        refine ⟨0, _, _, z, by simp, by simp, .inl ⟨rfl, by rw [← hq], by rw [← hq]⟩⟩
      · subst e1
        rw [pst, e2] at hq
        have hp := pst_ok hn k p e2
        exact ⟨1, _, _, z, hp.l1, hp.l2, .inr ⟨rfl, hq, hq'.l1, hq'.l2⟩⟩
    obtain ⟨f, xs, cs, z, lx, lc, hst⟩ := key
    have hlt : it < s.heap.objs.size := Heap.lt_size z
    have hTlt : T < s.heap.objs.size := by obtain ⟨o, e, _⟩ := hT; exact Heap.lt_size e
    refine item_pm z hT hi.1 lx lc hn2 hn hst fun h' z' hnew hk => ?_
    refine ⟨_, rfl, go_of (s := { s with heap := h' }) (n := "itertools.permutations") z' rfl rfl (by decide) ?_⟩
    have new : ObjOk X.prog X.w (upd H s.heap.objs.size (.tup (q.1.map fun k : Nat => V.int (k : Int)))) h' s.heap.objs.size (.tup (q.1.map fun k : Nat => V.int (k : Int))) :=
      ⟨by rw [List.length_map, hq'.l1, sizeLine_eq]; omega, _, pick_vals hi q.1 hq'.lt, ⟨_, hnew, rfl, _, rfl⟩⟩
    have I1 : Inv X pins σ (upd H s.heap.objs.size (.tup (q.1.map fun k : Nat => V.int (k : Int)))) { s with heap := h' } :=
      I.turnedNew (t' := s.toks) (ch := [it, T]) (fun c o hb e => hk c o (fun q' => hb (by simp [q'])) e) hf (Nat.le_refl _) new
    refine ⟨.ref s.heap.objs.size, _, I1, rfl, ⟨_, q, rfl, I.hok.fresh (Nat.le_refl _), rfl, hq⟩, ⟨acc, _, ?_, hi, .inr ⟨i, q, rfl, hq, z'⟩⟩, fun c hcm => ?_⟩
    · obtain ⟨o, e, r⟩ := hT
      exact ⟨o, hk T o hne e, r⟩
    · have hlt : c < s.heap.objs.size := by
        have e' : c = it ∨ c = T := by simpa using hcm
        rcases e' with q | q
        · rw [q]; exact hlt
        · rw [q]; exact hTlt
      rw [upd_ne (Nat.ne_of_lt hlt)]
      exact (hf c hcm).1
  done := by
    intro X hP hw hK hc i pins s σ H E I hf st hg
    subst hP hw hK
    obtain ⟨acc, last, hT, hi, st⟩ := st
    have hg : pst n i = none := hg
    rcases st with ⟨e1, z⟩ | ⟨k, p, e1, e2, z⟩
    · subst e1; cases hg
    · subst e1
      have hp := pst_ok hn k p e2
      rw [pst, e2] at hg
      exact end_pm (I.ok.hd hc) z hT hi.1 hp.l1 hp.l2 hn2 hn hg fun h' hk => ⟨rfl, I.turnedL (t' := s.toks) (ch := [it, T]) (fun c o hb q => hk c o (fun q' => hb (by simp [q'])) q) hf⟩
  self := fun A i s Q E st h => by
    obtain ⟨acc, last, hT, hi, st⟩ := st
    rcases st with ⟨e1, z⟩ | ⟨k, p, e1, e2, z⟩
    · exact self_pm z h
    · exact self_pm z h
section
variable {X : Cx} {tg e : Expr} {te : L2.St → Hp → (Int → Int → Hp → Prop) → Prop}
def iPmW (te : L2.St → Hp → (Int → Int → Hp → Prop) → Prop) : TI := fun σ H R => te σ H fun a b H1 => a = 0 ∧ 0 < b ∧ b ≤ 1000 ∧ R (ItPm b.toNat) H1
theorem pi_pm {p pos : Pos} {x : Str} (hc : X.calm = true) (hg : Gl X x) (hm : X.mg x = some (.type "itertools.permutations")) (hd : (x == ("__debug__" : Str)) = false) (he : PRg X e te) (na : starEach [e] X.env = (false, eval e X.env) :: starEach [] X.env := by rfl) :
    PI X tg (.Call (.Name x p) [e] [] pos) (iPmW te) := by
  refine ⟨fun pins s σ H R I h => ?_⟩
  refine Call_ (ld_glob I hg hm (PyProof.Rows.callWith_type1 (args_cons (thn (he pins s σ H _ I h) fun x s1 ⟨r, a, b, t, u, v, H1, ex, hr, I1, q⟩ => args_nil ?_) na) na) hd)
  subst ex
  obtain ⟨rfl, b1, b2, q⟩ := q
  refine call_pm (n := b.toNat) (I1.ok.hd hc) hr (small_one (by omega) (by omega) (by omega) (by omega)) (by rw [rangeSize_nat]; simp) (by omega) fun h1 h2 tk acc hk1 hk2 hi hT hz => ?_
  have hi' : ItemsOf (fun i v => ∃ t, v = .int (i : Int) t) acc b.toNat := ⟨hi.1, fun i v hv => by
    obtain ⟨t, ht⟩ := hi.2 i v hv
    refine ⟨t, ?_⟩
    rw [ht]
    simp⟩
  refine self_pm (s := { s1 with heap := h2, toks := tk }) hz ?_
  have I2 : Inv X pins σ H1 { s1 with heap := h1, toks := tk } := I1.kept hk1
  refine ⟨h1.objs.size + 1, [h1.objs.size + 1, h1.objs.size], _, _, H1, rfl, I2.kept (t' := tk) hk2, turn_pm (n := b.toNat) (by omega) (by omega) (Nat.ne_of_lt (Nat.lt_succ_self _)), ⟨acc, _, hT, hi', .inl ⟨rfl, hz⟩⟩, fun c hcm => ?_, q⟩
  have e' : c = h1.objs.size + 1 ∨ c = h1.objs.size := by simpa using hcm
  have hle : h1.objs.size ≤ c := by rcases e' with q | q <;> rw [q] <;> first | exact Nat.le_refl _ | exact Nat.le_succ _
  exact (I2.fpOk hle (I2.hok.fresh hle))
end
end RPm

set_option Elab.async false
set_option linter.all false
set_option autoImplicit false
set_option maxRecDepth 100000
set_option maxHeartbeats 1000000
/-! DPm: for .. in permutations(range(n)). -/
namespace DL
open PySem PySem.Spec PyProof.Rows L2
def pgo (n : Nat) : Nat → List Nat × List Nat → List (List Nat)
  | 0, _ => []
  | f + 1, p => p.1 :: (match RPm.pnx n n p.1 p.2 with
    | none => []
    | some q => pgo n f q)
theorem pst_none (n : Nat) : ∀ i k, RPm.pst n k = none → RPm.pst n (k + i) = none
  | 0, k, h => h
  | i + 1, k, h => by
    rw [show k + (i + 1) = k + i + 1 by omega, RPm.pst, pst_none n i k h]; rfl
theorem pgo_get (n : Nat) : ∀ (f k : Nat) (p : List Nat × List Nat), RPm.pst n k = some p → ∀ i, (pgo n f p)[i]? = if i < f then (RPm.pst n (k + i)).map (·.1) else none
  | 0, k, p, h, i => by simp [pgo]
  | f + 1, k, p, h, i => by
    have hs : RPm.pst n (k + 1) = RPm.pnx n n p.1 p.2 := by rw [RPm.pst, h]; rfl
    cases i with
    | zero => simp [pgo, h]
    | succ i =>
      rw [pgo, List.getElem?_cons_succ]
      cases hq : RPm.pnx n n p.1 p.2 with
      | none =>
        rw [hq] at hs
        have e := pst_none n i (k + 1) hs
        rw [show k + (i + 1) = k + 1 + i by omega, e]
        simp
      | some q =>
        rw [hq] at hs
        have ih := pgo_get n f (k + 1) q hs i
        rw [show k + (i + 1) = k + 1 + i by omega]
        show (pgo n f q)[i]? = _
        rw [ih]
        by_cases hi : i < f
        · rw [if_pos hi, if_pos (by omega)]
        · rw [if_neg hi, if_neg (by omega)]
/-- all orders of 0 .. n - 1, in the order of itertools -/
def pms (n : Nat) : List (List Nat) := pgo n 721 (List.range n, (List.range n).map fun i => n - i)
theorem pms_len {n : Nat} (h0 : 0 < n) (h : n ≤ 6) : (pms n).length ≤ 720 := by
  have key : ∀ n ∈ [1, 2, 3, 4, 5, 6], (pms n).length ≤ 720 := by decide +kernel
  exact key n (by simp; omega)
theorem pms_get {n : Nat} (h0 : 0 < n) (h : n ≤ 6) (i : Nat) : (pms n)[i]? = (RPm.pst n i).map (·.1) := by
  have e := fun i => pgo_get n 721 0 _ (show RPm.pst n 0 = some (List.range n, (List.range n).map fun i => n - i) from rfl) i
  have hl := pms_len h0 h
  by_cases hi : i < 721
  · have := e i
    rw [if_pos hi, Nat.zero_add] at this
    exact this
  · have e720 := e 720
    rw [if_pos (by omega), Nat.zero_add] at e720
    have n720 : (pms n)[720]? = none := List.getElem?_eq_none hl
    rw [show pgo n 721 (List.range n, (List.range n).map fun i => n - i) = pms n from rfl, n720] at e720
    have z : RPm.pst n 720 = none := by
      cases h : RPm.pst n 720 with
      | none => rfl
      | some p => rw [h] at e720; cases e720
    have z2 := pst_none n (i - 720) 720 z
    rw [show 720 + (i - 720) = i by omega] at z2
    rw [z2, List.getElem?_eq_none (by omega)]; rfl
@[simp] def iPm (a : ME) : MI := fun env P => a env fun x e1 => match x with
  | .int n => 0 < n ∧ n ≤ 6 ∧ P ((pms n.toNat).map fun r => .tup (r.map fun k : Nat => D.int (k : Int))) e1
  | _ => False
theorem reps_nat {K : PySem.W.Frag} {Pl O : Addr → Prop} {H : Hp} : ∀ xs : List Nat, Reps K Pl O H (xs.map fun k : Nat => D.int (k : Int)) (xs.map fun k : Nat => V.int (k : Int))
  | [] => rfl
  | x :: xs => ⟨_, _, rfl, rfl, reps_nat xs⟩
section
variable {X : Cx} {Tb : Addr → Prop} {tg a : Expr} {m : ME} {pos p p2 p3 : Pos}
theorem iv_pm (hc : X.calm = true) (hg : Gl X "permutations") (hm : X.mg "permutations" = some (.type "itertools.permutations")) (hg2 : Gl X "range") (hm2 : X.mg "range" = none) (h : EV X Tb a m) (na : starEach [a] X.env = (false, eval a X.env) :: starEach [] X.env := by rfl)
    (nb : starEach [.Call (.Name "range" p2) [a] [] p3] X.env = (false, eval (.Call (.Name "range" p2) [a] [] p3) X.env) :: starEach [] X.env := by rfl) : IV X Tb tg (.Call (.Name "permutations" p) [.Call (.Name "range" p2) [a] [] p3] [] pos) (iPm m) := by
  obtain ⟨t, pe, h⟩ := h.ex
  refine ⟨_, RPm.pi_pm hc hg hm (by decide) (prg_1 hg2 hm2 pe na) nb, fun W Oc H0 O H σ env R P F hm hq => ?_⟩
  refine h W Oc H0 O H σ env _ _ F hm fun H1 v d e1 F1 s1 r1 q1 => ?_
  cases d with
  | int n =>
    obtain ⟨h0, h6, q1⟩ := q1
    refine ⟨n, r1, rfl, h0, by omega, hq H1 _ _ e1 F1 s1 (fun O2 H2 mv hO i => ⟨fun d hd => ?_, fun hle => ?_⟩) q1⟩
    · rw [List.getElem?_map, pms_get (by omega) (by omega)] at hd
      obtain ⟨r, hr, rfl⟩ := Option.map_eq_some_iff.mp hd
      obtain ⟨q, hq, rfl⟩ := Option.map_eq_some_iff.mp hr
      refine ⟨⟨q, hq⟩, fun x H3 ⟨T, q', ex, hT, eH, hq'⟩ => ?_⟩
      subst ex eH
      rw [hq] at hq'
      injection hq' with hq'
      subst hq'
      exact ⟨same_upd hT, rep_new_tup hO (reps_nat q.1) hT⟩
    · have e := pms_get (n := n.toNat) (by omega) (by omega) i
      rw [List.length_map] at hle
      rw [List.getElem?_eq_none hle] at e
      cases h : RPm.pst n.toNat i with
      | none => exact h
      | some p => rw [h] at e; cases e
  | _ => exact False.elim q1
end
end DL

set_option Elab.async false
set_option linter.all false
set_option autoImplicit false
set_option maxRecDepth 100000
/-! DC: what the helpers of the laws do, over data. -/
namespace DL
open PySem (Str)

/-! ### draws -/
def F__law_spread : FD := fun ds P => ∃ c : Int, ds = [.int c] ∧ ∀ r : Int, P (.int r)
def F__law_draw : FD := fun ds P => ∃ n : Int, ds = [.pool, .int n] ∧ 0 < n ∧ n < 340282366920938463463374607431768211456 ∧ ∀ r : Int, 0 ≤ r → r < n → P (.int r)
theorem draw_nat {ds : List D} {P : D → Prop} (n : Nat) (h : ds = [.pool, .int (n : Int)]) (h0 : 0 < n) (h1 : n < 340282366920938463463374607431768211456) (hP : ∀ r : Nat, r < n → P (dN r)) : F__law_draw ds P := by
  refine ⟨n, h, by omega, by omega, fun r hr hr' => ?_⟩
  obtain ⟨k, rfl⟩ := Int.eq_ofNat_of_zero_le hr
  exact hP k (by omega)

/-! ### places -/
def at0 (c : List Int) (x : Nat) : Int := c.getD x 0

theorem atI_tI {c : List Int} {x : Nat} (h : x < c.length) : atI (c.map D.int) (x : Int) = some (.int (at0 c x)) := by
  rw [atI_nat, List.getElem?_map, List.getElem?_eq_getElem h]
  simp [at0, h]
def mb__law_pool : MS :=
  (sSeq (sSet 1 (eC (.int 7)))
    (sSeq (sFor (iSeq (eCut (eVar 0) pNo (pAt (eC (.int 63))))) (DL.gName 2)
    (sSet 1 (eBin oMod (eCall fInt (aCons (eBin oAdd (eBin oRep1 (eVar 1) (eC (.int 31))) (eVar 2)) aNil)) (eC (.int 1000003)))))
    (sRet (eFr (fLst (aCons (eFr (fListOf (eVar 0))) (aCons (eC (.int 0)) (aCons (eC (.int 0)) (aCons (eC (.int 0)) (aCons (eVar 1) aNil))))))))))

def mb__law_spread : MS :=
  (sSeq (sSet 1 (eBin oMod (eCall fInt (aCons (eVar 0) aNil)) (eC (.int 2147483647))))
    (sSeq (sSet 2 (eC (.int 1)))
    (sSeq (sFor (iRange1 (eC (.int 4))) (DL.gName 3)
    (sSeq (sSet 1 (eBin oMod (eCall fInt (aCons (eBin oAdd (eBin oAdd (eBin oRep1 (eVar 1) (eC (.int 48271))) (eC (.int 12345))) (eVar 3)) aNil)) (eC (.int 2147483647))))
    (sSet 2 (eBin oAdd (eBin oRep1 (eVar 2) (eC (.int 2147483647))) (eVar 1)))))
    (sRet (eVar 2)))))

def mb__law_draw_1 : MS :=
  (sSeq (sPool 0 3 (eRd 0 (eBin oAdd (eBin oIx (eVar 0) (eC (.int 3))) (eC (.int 1)))))
    (sSeq (sIf (tRd 0 (tVal (eBin oLe (eBin oIx (eVar 0) (eC (.int 2))) (eC (.int 0))))) (sSeq (sSet 3 (eRd 0 (eBin oMod (eCall fInt (aCons (eBin oAdd (eBin oAdd (eBin oRep1 (eBin oIx (eVar 0) (eC (.int 4))) (eC (.int 48271))) (eBin oRep1 (eBin oIx (eVar 0) (eC (.int 3))) (eC (.int 69621)))) (eC (.int 1))) aNil)) (eC (.int 2147483647)))))
    (sSeq (sSet 3 (eRd 0 (eBin oMod (eCall fInt (aCons (eBin oAdd (eBin oRep1 (eVar 3) (eC (.int 16807))) (eBin oIx (eVar 0) (eC (.int 3)))) aNil)) (eC (.int 2147483629)))))
    (sRet (eBin oMod (eBin oDiv (eVar 3) (eC (.int 5))) (eVar 1))))) sNop)
    (sSeq (sSet 4 (eRd 0 (eBin oMod (eCall fInt (aCons (eBin oIx (eVar 0) (eC (.int 2))) aNil)) (eVar 1))))
    (sSeq (sPool 0 2 (eRd 0 (eBin oDiv (eBin oIx (eVar 0) (eC (.int 2))) (eVar 1))))
    (sRet (eVar 4))))))
def mb__law_draw : MS :=
  (sSeq (sRdIf 0 2 (DL.tAnd (tVal (eBin oLe (eBin oIx (eVar 0) (eC (.int 2))) (eC (.int 0)))) (tVal (eBin oLt (eBin oIx (eVar 0) (eC (.int 1))) (eCall fLen (aCons (eBin oIx (eVar 0) (eC (.int 0))) aNil))))) (eBin oIx (eBin oIx (eVar 0) (eC (.int 0))) (eBin oIx (eVar 0) (eC (.int 1)))) (sSeq (sPool 0 1 (eRd 0 (eBin oAdd (eBin oIx (eVar 0) (eC (.int 1))) (eC (.int 1)))))
    (sSeq (sPool 0 2 (eVar 2))
    (sIf (tVal (eBin oLt (eVar 2) (eC (.int 1000000000000000000)))) (sPool 0 2 (eCall F__law_spread (aCons (eVar 2) aNil))) sNop))))
    mb__law_draw_1)

theorem hF__law_pool : ∀ ds Q, F__law_pool ds Q → ds.length = 1 ∧ mb__law_pool { nx := fun _ => Q .non, rt := Q } (dstart 3 ds) := by
  rintro ds Q ⟨ns, rfl, hP⟩
  refine ⟨rfl, ?_⟩
  simp [mb__law_pool, dstart]
  refine loop_ind (fun ds env => ∃ (t : Int), ∃ x, (∀ d ∈ ds, ∃ k : Int, d = .int k) ∧ env = [some (.val (.frz ns)), some (.val (.int t)), x]) ?_ ?_ _ _ ⟨_, _, fun d hd => ?_, rfl⟩
  · rintro env ⟨t, x, _, rfl⟩
    simpa using hP _
  · rintro d ds Kk env hK ⟨t, x, hd, rfl⟩
    obtain ⟨k, rfl⟩ := hd d (List.mem_cons_self ..)
    simp
    exact hK _ ⟨_, _, fun d h => hd d (List.mem_cons_of_mem _ h), rfl⟩
  · have : d ∈ ns.map D.int := by
      unfold cut at hd
      exact List.mem_of_mem_drop (List.mem_of_mem_take hd)
    obtain ⟨k, _, rfl⟩ := List.mem_map.mp this; exact ⟨k, rfl⟩
theorem hF__law_spread : ∀ ds Q, F__law_spread ds Q → ds.length = 1 ∧ mb__law_spread { nx := fun _ => Q .non, rt := Q } (dstart 4 ds) := by
  rintro ds Q ⟨c, rfl, hP⟩
  refine ⟨rfl, ?_⟩
  simp [mb__law_spread, dstart]
  refine loop_ind (fun ds env => ∃ (m t : Int), ∃ x, (∀ d ∈ ds, ∃ k : Nat, d = dN k) ∧ env = [some (.val (.int c)), some (.val (.int m)), some (.val (.int t)), x]) ?_ ?_ _ _ ⟨_, _, _, fun d hd => ?_, rfl⟩
  · rintro env ⟨m, t, x, _, rfl⟩
    simpa using hP _
  · rintro d ds Kk env hK ⟨m, t, x, hd, rfl⟩
    obtain ⟨k, rfl⟩ := hd d (List.mem_cons_self ..)
    simp
    exact hK _ ⟨_, _, _, fun d h => hd d (List.mem_cons_of_mem _ h), rfl⟩
  · obtain ⟨k, _, rfl⟩ := mem_intsD hd; exact ⟨k, rfl⟩
@[simp] theorem at5_0 (a b c d e : D) : atI [a, b, c, d, e] 0 = some a := rfl
@[simp] theorem at5_1 (a b c d e : D) : atI [a, b, c, d, e] 1 = some b := rfl
@[simp] theorem at5_2 (a b c d e : D) : atI [a, b, c, d, e] 2 = some c := rfl
@[simp] theorem at5_3 (a b c d e : D) : atI [a, b, c, d, e] 3 = some d := rfl
@[simp] theorem at5_4 (a b c d e : D) : atI [a, b, c, d, e] 4 = some e := rfl
theorem draw_1 (E : DEnds) (n : Int) (x y z : Option Sl) (h0 : 0 < n) (h1 : n < 340282366920938463463374607431768211456) (hP : ∀ (r : Int), 0 ≤ r → r < n → E.rt (.int r)) : mb__law_draw_1 E [some (.val .pool), some (.val (.int n)), x, y, z] := by
  have hr : ∀ r : Int, E.rt (.int (r % n)) := fun r => hP _ (Int.emod_nonneg _ (by omega)) (Int.emod_lt_of_pos _ h0)
  simp [mb__law_draw_1]
  intros
  split
  · intros
    exact ⟨h0, hr _⟩
  · intros
    refine ⟨h0, ?_⟩
    intros
    exact ⟨h0, h1, hr _⟩
theorem hF__law_draw : ∀ ds Q, F__law_draw ds Q → ds.length = 2 ∧ mb__law_draw { nx := fun _ => Q .non, rt := Q } (dstart 5 ds) := by
  rintro ds Q ⟨n, rfl, h0, h1, hP⟩
  refine ⟨rfl, ?_⟩
  simp [mb__law_draw, dstart]
  intro ns k v hk
  split
  · split
    · rename_i hkl
      have hx : atI (ns.map D.int) k = some (.int (at0 ns k.toNat)) := by
        obtain ⟨m, rfl⟩ := Int.eq_ofNat_of_zero_le hk
        exact atI_tI (by simpa using hkl)
      simp [hx]
      intro k hk
      refine ⟨by omega, ?_⟩
      split
      · refine ⟨_, rfl, fun r => ?_⟩
        exact draw_1 _ n _ _ _ h0 h1 hP
      · exact draw_1 _ n _ _ _ h0 h1 hP
    · exact draw_1 _ n _ _ _ h0 h1 hP
  · exact draw_1 _ n _ _ _ h0 h1 hP
def meets : List Nat → List Int → Bool
  | [], _ => true
  | x :: r, c => if at0 c x = 0 then meets r c else at0 c x == 1
def F_meets : FD := fun ds P => ∃ (r : List Nat) (c : List Int), ds = [tN r, tI c] ∧ (∀ x ∈ r, x < c.length) ∧ P (.bl (meets r c))
def mb_meets : MS :=
  (sSeq (sFor (iSeq (eVar 0)) (DL.gName 2)
    (sIf (tVal (eBin oNe (eBin oIx (eVar 1) (eVar 2)) (eC (.int 0)))) (sRet (eBin oEq (eBin oIx (eVar 1) (eVar 2)) (eC (.int 1)))) sNop))
    (sRet (eC (.bl true))))

theorem hF_meets : ∀ ds Q, F_meets ds Q → ds.length = 2 ∧ mb_meets { nx := fun _ => Q .non, rt := Q } (dstart 3 ds) := by
  rintro ds Q ⟨r, c, rfl, hr, hP⟩
  refine ⟨rfl, ?_⟩
  simp [mb_meets, dstart]
  refine loop_ind (fun ds env => ∃ r' x, ds = r'.map dN ∧ env = [some (.val (tN r)), some (.val (tI c)), x] ∧ (∀ x ∈ r', x < c.length) ∧ Q (.bl (meets r' c))) ?_ ?_ _ _ ⟨r, _, rfl, rfl, hr, hP⟩
  · rintro env ⟨r', x, h, rfl, _, q⟩
    rw [List.eq_nil_of_map_eq_nil h.symm] at q
    simpa [meets] using q
  · rintro d ds Kk env hK ⟨r', x, h, rfl, hr', q⟩
    cases r' with
    | nil => cases h
    | cons y r' =>
      cases h
      have hy := hr' y (List.mem_cons_self ..)
      simp [atI_tI hy]
      simp only [meets] at q
      by_cases h0 : at0 c y = 0
      · simp only [h0, if_true] at q ⊢
        exact hK _ ⟨r', _, rfl, rfl, fun x hx => hr' x (List.mem_cons_of_mem _ hx), q⟩
      · simpa [h0] using q
theorem peq_c (d : D) (h : plain 1 d = true) : peq d d = true := peq_refl 1 d h
/-! ### _law_same -/
def F__law_same : Nat → FD
  | 0 => fun _ _ => False
  | n + 1 => fun ds P => ∃ d, ds = [d, d] ∧ small n d = true ∧ n ≤ 60 ∧ P (.bl true)

def mb__law_same (lv : Nat) : MS :=
  (sSeq (sIf (DL.tOr (tVal (eUn (oIsA .tuple) (eVar 1))) (tVal (eUn (oIsA .list) (eVar 1)))) (sSeq (sIf (DL.tOr (tVal (eBin oNe (eUn (oIsA .tuple) (eVar 1)) (eUn (oIsA .tuple) (eVar 0)))) (tVal (eBin oNe (eUn (oIsA .list) (eVar 1)) (eUn (oIsA .list) (eVar 0))))) (sRet (eC (.bl false))) sNop)
    (sSeq (sIf (tVal (eBin oNe (eCall fLen (aCons (eVar 0) aNil)) (eCall fLen (aCons (eVar 1) aNil)))) (sRet (eC (.bl false))) sNop)
    (sRet (eBin oEq (eCall fLen (aCons (eFr (fLc (iRange1 (eCall fLen (aCons (eVar 1) aNil))) (DL.gName 2) (DL.tNot (tVal (eCall (F__law_same lv) (aCons (eBin oIx (eVar 0) (eVar 2)) (aCons (eBin oIx (eVar 1) (eVar 2)) aNil))))) (eVar 2) [2])) aNil)) (eC (.int 0)))))) sNop)
    (sSeq (sIf (tVal (eBin oIs (eVar 1) (eC .non))) (sRet (eBin oIs (eVar 0) (eC .non))) sNop)
    (sSeq (sIf (DL.tOr (tVal (eUn (oIsA .bool) (eVar 1))) (tVal (eUn (oIsA .bool) (eVar 0)))) (sRet (eAnd (eUn (oIsA .bool) (eVar 1)) (eAnd (eUn (oIsA .bool) (eVar 0)) (eBin oEq (eVar 0) (eVar 1))))) sNop)
    (sSeq (sIf (tVal (eUn (oIsA .int) (eVar 1))) (sRet (eAnd (eUn (oIsA .int) (eVar 0)) (eBin oEq (eVar 0) (eVar 1)))) sNop)
    (sRet (eAnd (eUn (oIsA .str) (eVar 0)) (eBin oEq (eVar 0) (eVar 1))))))))

theorem same_list (n : Nat) (xs : List D) (D0 : D) (hD : D0 = .tup xs ∨ D0 = .lst xs) (h1 : smalls n xs = true) (hn : n + 1 ≤ 60) (P : List D → Prop) (hP : P []) :
    lcLoop (gName 2) (tNot (tVal (eCall (F__law_same (n + 1)) (aCons (eBin oIx (eVar 0) (eVar 2)) (aCons (eBin oIx (eVar 1) (eVar 2)) aNil))))) (eVar 2)
      [some (.val D0), some (.val D0), none] P (intsD 0 xs.length) [] := by
  refine lc_none (fun d hd Kk Kn h => ?_) _ hP
  obtain ⟨k, hk, rfl⟩ := mem_intsD hd
  have hx : xs[k]? = some xs[k] := List.getElem?_eq_getElem hk
  have hs := smalls_mem n xs h1 xs[k] (List.getElem_mem hk)
  rcases hD with rfl | rfl
  all_goals
    simp [atI_nat, hx]
    exact ⟨xs[k], rfl, hs, by omega, by simpa using h⟩
theorem hF__law_same (lv : Nat) : ∀ ds Q, F__law_same (lv + 1) ds Q → ds.length = 2 ∧ mb__law_same lv { nx := fun _ => Q .non, rt := Q } (dstart 3 ds) := by
  rintro ds Q ⟨d, rfl, hs, hn, hP⟩
  refine ⟨rfl, ?_⟩
  have hp := plain_mono lv DP hn d (small_plain lv d hs)
  have hq := peq_refl DP d hp
  cases d with
  | non => simpa [mb__law_same, dstart] using hP
  | bl b => cases b <;> simpa [mb__law_same, dstart] using hP
  | int i => simpa [mb__law_same, dstart] using hP
  | str x => simpa [mb__law_same, dstart, hp, hq] using hP
  | tup xs =>
    cases lv with
    | zero => simp [small] at hs
    | succ n =>
      simp only [small, Bool.and_eq_true, decide_eq_true_eq] at hs
      have hl : xs.length ≤ 16777216 := hs.1
      simp [mb__law_same, dstart, intsD_length]
      exact ⟨by omega, hl, same_list n xs _ (.inl rfl) hs.2 hn _ (by simpa using hP)⟩
  | lst xs =>
    cases lv with
    | zero => simp [small] at hs
    | succ n =>
      simp only [small, Bool.and_eq_true, decide_eq_true_eq] at hs
      have hl : xs.length ≤ 16777216 := hs.1
      simp [mb__law_same, dstart, intsD_length]
      exact ⟨by omega, hl, same_list n xs _ (.inr rfl) hs.2 hn _ (by simpa using hP)⟩
  | dct ks vs => simp [small] at hs
  | pool => simp [small] at hs
  | frz _ => simp [small] at hs
  | rnk _ => simp [small] at hs
  | gd _ _ => simp [small] at hs
/-- as it is called -/
theorem same_of {d : D} {P : D → Prop} (n : Nat) (hs : small n d = true) (hP : P (.bl true)) (h : n ≤ 11 := by decide) : F__law_same 12 [d, d] P :=
  ⟨d, rfl, small_mono n 11 h d hs, by decide, hP⟩

/-! ### first_unmet -/
def fu (r : List Nat) (k : Nat) : List (List Int) → D
  | [] => .non
  | c :: cs => if meets r c = true then fu r (k + 1) cs else dN k
abbrev lI (cs : List (List Int)) : D := .lst (cs.map tI)
def F_first_unmet : FD := fun ds P => ∃ (r : List Nat) (cs : List (List Int)), ds = [tN r, lI cs] ∧ (∀ c ∈ cs, ∀ x ∈ r, x < c.length) ∧ cs.length ≤ 16777216 ∧ P (fu r 0 cs)
abbrev F__law_meets := F_meets
abbrev F__law_first_unmet := F_first_unmet
def mb_first_unmet : MS :=
  (sSeq (sFor (iEnum (eVar 1)) (DL.gTup (DL.gCons (DL.gName 2) (DL.gCons (DL.gName 3) DL.gNil)))
    (sIf (DL.tNot (tVal (eCall F_meets (aCons (eVar 0) (aCons (eVar 3) aNil))))) (sRet (eVar 2)) sNop))
    (sRet (eC .non)))

def mb__law_meets : MS :=
  (sSeq (sFor (iSeq (eVar 0)) (DL.gName 2)
    (sIf (tVal (eBin oNe (eBin oIx (eVar 1) (eVar 2)) (eC (.int 0)))) (sRet (eBin oEq (eBin oIx (eVar 1) (eVar 2)) (eC (.int 1)))) sNop))
    (sRet (eC (.bl true))))

def mb__law_first_unmet : MS :=
  (sSeq (sFor (iRange1 (eCall fLen (aCons (eVar 1) aNil))) (DL.gName 2)
    (sIf (DL.tNot (tVal (eCall F__law_meets (aCons (eVar 0) (aCons (eBin oIx (eVar 1) (eVar 2)) aNil))))) (sRet (eVar 2)) sNop))
    (sRet (eC .non)))

theorem hF_first_unmet : ∀ ds Q, F_first_unmet ds Q → ds.length = 2 ∧ mb_first_unmet { nx := fun _ => Q .non, rt := Q } (dstart 4 ds) := by
  rintro ds Q ⟨r, cs, rfl, hr, hl, hP⟩
  refine ⟨rfl, ?_⟩
  simp [mb_first_unmet, dstart]
  refine loop_ind (fun ds env => ∃ cs' k x y, ds = enumT (k : Nat) (cs'.map tI) ∧ env = [some (.val (tN r)), some (.val (lI cs)), x, y] ∧ (∀ c ∈ cs', ∀ x ∈ r, x < c.length) ∧ Q (fu r k cs')) ?_ ?_ _ _ ⟨cs, 0, _, _, rfl, rfl, hr, hP⟩
  · rintro env ⟨cs', k, x, y, h, rfl, _, q⟩
    cases cs' with
    | nil => simpa [fu] using q
    | cons => cases h
  · rintro d ds Kk env hK ⟨cs', k, x, y, h, rfl, hr', q⟩
    cases cs' with
    | nil => cases h
    | cons c cs' =>
      cases h
      simp
      refine ⟨r, c, rfl, hr' c (List.mem_cons_self ..), ?_⟩
      simp only [fu] at q
      cases hm : meets r c with
      | false => rw [hm] at q; simpa using q
      | true =>
        rw [hm] at q
        simp at q ⊢
        exact hK _ ⟨cs', k + 1, _, _, rfl, rfl, fun c hc => hr' c (List.mem_cons_of_mem _ hc), q⟩
theorem hF__law_meets : ∀ ds Q, F__law_meets ds Q → ds.length = 2 ∧ mb__law_meets { nx := fun _ => Q .non, rt := Q } (dstart 3 ds) := hF_meets
theorem hF__law_first_unmet : ∀ ds Q, F__law_first_unmet ds Q → ds.length = 2 ∧ mb__law_first_unmet { nx := fun _ => Q .non, rt := Q } (dstart 3 ds) := by
  rintro ds Q ⟨r, cs, rfl, hr, hl, hP⟩
  refine ⟨rfl, ?_⟩
  simp [mb__law_first_unmet, dstart]
  refine ⟨by omega, ?_⟩
  refine loop_ind (fun ds env => ∃ cs' k x, ds = intsD (k : Nat) cs'.length ∧ env = [some (.val (tN r)), some (.val (lI cs)), x] ∧ cs' = cs.drop k ∧ Q (fu r k cs')) ?_ ?_ _ _ ⟨cs, 0, _, rfl, rfl, rfl, hP⟩
  · rintro env ⟨cs', k, x, h, rfl, _, q⟩
    cases cs' with
    | nil => simpa [fu] using q
    | cons => cases h
  · rintro d ds Kk env hK ⟨cs', k, x, h, rfl, hd, q⟩
    cases cs' with
    | nil => cases h
    | cons c cs' =>
      cases h
      have hc : cs[k]? = some c := by
        have := congrArg List.head? hd
        rw [List.head?_drop] at this; exact this.symm
      simp [atI_nat, hc]
      refine ⟨r, c, rfl, hr c (List.mem_of_getElem? hc), ?_⟩
      simp only [fu] at q
      cases hm : meets r c with
      | false => rw [hm] at q; simpa using q
      | true =>
        rw [hm] at q
        simp at q ⊢
        refine hK _ ⟨cs', k + 1, _, rfl, rfl, ?_, q⟩
        have := congrArg List.tail hd
        rw [List.tail_drop] at this; exact this

/-! ### draws of rankings, comparisons -/
def F__law_ranking : FD := fun ds P => ∃ n : Nat, ds = [.pool, dN n] ∧ n ≤ 1000 ∧ ∀ r : List Nat, r.Perm (List.range n) → P (tN r)
def sgn (x : Int) : Prop := x = -1 ∨ x = 0 ∨ x = 1
/-- a comparison of size n -/
structure Cmpr (n : Nat) (c : List Int) : Prop where
  len : c.length = n
  sg : ∀ x ∈ c, sgn x
def F__law_row : FD := fun ds P => ∃ n : Nat, ds = [.pool, dN n] ∧ n ≤ 1000 ∧ ∀ c, Cmpr n c → P (tI c)
def F__law_turned : FD := fun ds P => ∃ c : List Int, ds = [tI c] ∧ c.length ≤ 1000 ∧ P (tI (c.map fun x => -x))
def F__law_fitting : FD := fun ds P => ∃ (n m : Nat) (r : List Nat), ds = [.pool, dN n, dN m, tN r] ∧ n ≤ 1000 ∧ m ≤ 1000 ∧ (∀ x ∈ r, x < n) ∧
  ∀ cs : List (List Int), cs.length = m → (∀ c ∈ cs, Cmpr n c ∧ meets r c = true) → P (lI cs)
def F__law_rows : FD := fun ds P => ∃ (n m : Nat), ds = [.pool, dN n, dN m] ∧ n ≤ 1000 ∧ m ≤ 1000 ∧
  ∀ cs : List (List Int), cs.length ≤ m → (∀ c ∈ cs, Cmpr n c) → P (lI cs)
def mb__law_ranking : MS :=
  (sSeq (sSetOwn 2 (fListR1 (eVar 1)))
    (sSeq (sSetOwn 3 (fLst aNil))
    (sSeq (sWhile (tVal (eBin oGt (eOLen 2) (eC (.int 0))))
    (sAppend 3 (ePopAt 2 (eCall F__law_draw (aCons (eVar 0) (aCons (eOLen 2) aNil))))))
    (sFrz 3 (sRet (eCall fTuple (aCons (eVar 3) aNil)))))))

def mb__law_row : MS :=
  (sRet (eCall fTuple (aCons (eFr (fLc (iRange1 (eVar 1)) (DL.gName 2) tNone (eBin oIx (eTup (aCons (eUn oNeg (eC (.int 1))) (aCons (eC (.int 0)) (aCons (eC (.int 1)) (aCons (eC (.int 1)) (aCons (eUn oNeg (eC (.int 1))) (aCons (eC (.int 0)) (aCons (eC (.int 0)) aNil)))))))) (eCall F__law_draw (aCons (eVar 0) (aCons (eC (.int 7)) aNil)))) [2])) aNil)))

def mb__law_turned : MS :=
  (sRet (eCall fTuple (aCons (eFr (fLc (iSeq (eVar 0)) (DL.gName 1) tNone (eBin oSub (eC (.int 0)) (eVar 1)) [1])) aNil)))

def mb__law_fitting : MS :=
  (sSeq (sSetOwn 4 (fLst aNil))
    (sSeq (sFor (iRange1 (eVar 2)) (DL.gName 5)
    (sSeq (sSet 6 (eCall F__law_row (aCons (eVar 0) (aCons (eVar 1) aNil))))
    (sAppend 4 (eIf (tVal (eCall F__law_meets (aCons (eVar 3) (aCons (eVar 6) aNil)))) (eVar 6) (eCall F__law_turned (aCons (eVar 6) aNil))))))
    (sFrz 4 (sRet (eVar 4)))))

def mb__law_rows : MS :=
  (sSeq (sSet 3 (eCall F__law_draw (aCons (eVar 0) (aCons (eBin oAdd (eVar 2) (eC (.int 1))) aNil))))
    (sSeq (sIf (tVal (eBin oGt (eCall F__law_draw (aCons (eVar 0) (aCons (eC (.int 3)) aNil))) (eC (.int 0)))) (sSeq (sSet 4 (eCall F__law_fitting (aCons (eVar 0) (aCons (eVar 1) (aCons (eVar 3) (aCons (eCall F__law_ranking (aCons (eVar 0) (aCons (eVar 1) aNil))) aNil))))))
    (sSeq (sIf (DL.tAnd (tVal (eBin oGt (eVar 3) (eC (.int 1)))) (tVal (eBin oEq (eCall F__law_draw (aCons (eVar 0) (aCons (eC (.int 2)) aNil))) (eC (.int 0))))) (sSeq (sSet 5 (eCall F__law_draw (aCons (eVar 0) (aCons (eVar 3) aNil))))
    (sSet 4 (eBin oAdd (eBin oAdd (eCut (eVar 4) pNo (pAt (eVar 5))) (eFr (fLst (aCons (eCall F__law_turned (aCons (eBin oIx (eVar 4) (eVar 5)) aNil)) aNil)))) (eCut (eVar 4) (pAt (eBin oAdd (eVar 5) (eC (.int 1)))) pNo)))) sNop)
    (sRet (eVar 4)))) sNop)
    (sRet (eFr (fLc (iRange1 (eVar 3)) (DL.gName 6) tNone (eCall F__law_row (aCons (eVar 0) (aCons (eVar 1) aNil))) [6])))))

theorem map_eraseIdx' {α β : Type} (f : α → β) (xs : List α) (k : Nat) : (xs.map f).eraseIdx k = (xs.eraseIdx k).map f := by
  induction xs generalizing k with
  | nil => rfl
  | cons x xs ih => cases k with
    | zero => rfl
    | succ k => simp [List.eraseIdx, ih]
theorem perm_eraseIdx {α : Type} (xs : List α) (k : Nat) (x : α) (h : xs[k]? = some x) : (x :: xs.eraseIdx k).Perm xs := by
  induction xs generalizing k with
  | nil => simp at h
  | cons y ys ih => cases k with
    | zero => simp at h; subst h; exact List.Perm.refl _
    | succ k => simp at h; exact (List.Perm.swap ..).trans ((ih k h).cons y)
theorem hF__law_ranking : ∀ ds Q, F__law_ranking ds Q → ds.length = 2 ∧ mb__law_ranking { nx := fun _ => Q .non, rt := Q } (dstart 4 ds) := by
  rintro ds Q ⟨n, rfl, hn, hP⟩
  refine ⟨rfl, ?_⟩
  simp [mb__law_ranking, dstart]
  refine ⟨by omega, while_ind (fun m env => ∃ L Fo : List Nat, L.length = m ∧ (Fo ++ L).Perm (List.range n) ∧ env = [some (.val .pool), some (.val (dN n)), some (.own (L.map dN)), some (.own (Fo.map dN))]) ?_ n _ ⟨List.range n, [], by simp, List.Perm.refl _, by rw [ints0]; rfl⟩⟩
  rintro m Kk env hK ⟨L, Fo, hm, hp, rfl⟩
  have hlen : Fo.length + L.length = n := by have := hp.length_eq; simpa using this
  by_cases h0 : L.length = 0
  · have : L = [] := List.eq_nil_of_length_eq_zero h0
    subst this
    simp at hp ⊢
    exact hP Fo hp
  · have h1 : 0 < L.length := by omega
    simp [h1]
    refine draw_nat L.length rfl h1 (by omega) fun k hk => ?_
    have hx : L[k]? = some L[k] := List.getElem?_eq_getElem hk
    simp [hx, map_eraseIdx']
    refine ⟨by omega, by omega, hK (m - 1) _ (by omega) ⟨L.eraseIdx k, Fo ++ [L[k]], by rw [List.length_eraseIdx_of_lt hk]; omega, ?_, by simp⟩⟩
    refine List.Perm.trans ?_ hp
    rw [List.append_assoc]
    exact (perm_eraseIdx L k _ hx).append_left Fo
theorem hF__law_row : ∀ ds Q, F__law_row ds Q → ds.length = 2 ∧ mb__law_row { nx := fun _ => Q .non, rt := Q } (dstart 3 ds) := by
  rintro ds Q ⟨n, rfl, hn, hP⟩
  refine ⟨rfl, ?_⟩
  simp [mb__law_row, dstart, intsD_length]
  refine ⟨by omega, by omega, lc_all D.int sgn (fun d hd Kk Kn hx => ?_) fun xs hl ho => ?_⟩
  · simp
    refine draw_nat 7 rfl (by decide) (by decide) fun k hk => ?_
    have : k = 0 ∨ k = 1 ∨ k = 2 ∨ k = 3 ∨ k = 4 ∨ k = 5 ∨ k = 6 := by omega
    rcases this with rfl | rfl | rfl | rfl | rfl | rfl | rfl <;> simp [atI, ixN] <;> apply hx <;> simp [sgn]
  · simpa using hP xs ⟨by simpa [intsD_length] using hl, ho⟩
theorem hF__law_turned : ∀ ds Q, F__law_turned ds Q → ds.length = 1 ∧ mb__law_turned { nx := fun _ => Q .non, rt := Q } (dstart 2 ds) := by
  rintro ds Q ⟨c, rfl, hn, hP⟩
  refine ⟨rfl, ?_⟩
  simp [mb__law_turned, dstart]
  refine ⟨by omega, lc_map (fun d => match d with | .int i => .int (0 - i) | d => d) (fun d hd Kk Kn h => ?_) _ ?_⟩
  · obtain ⟨x, _, rfl⟩ := List.mem_map.mp hd
    simpa using h
  · simpa [Function.comp_def, tI] using hP
theorem at0_map (c : List Int) (x : Nat) : at0 (c.map fun x => -x) x = -at0 c x := by
  unfold at0
  rw [List.getD_eq_getElem?_getD, List.getD_eq_getElem?_getD, List.getElem?_map]
  cases c[x]? <;> simp
theorem at0_sgn {n : Nat} {c : List Int} (h : Cmpr n c) (x : Nat) : sgn (at0 c x) := by
  unfold at0
  rw [List.getD_eq_getElem?_getD]
  cases h' : c[x]? with
  | none => simp [sgn]
  | some y => exact h.sg y (List.mem_of_getElem? h')
theorem meets_turned {n : Nat} {c : List Int} (h : Cmpr n c) (r : List Nat) (hm : meets r c = false) : meets r (c.map fun x => -x) = true := by
  induction r with
  | nil => simp [meets] at hm
  | cons x r ih =>
    simp only [meets, at0_map] at hm ⊢
    rcases at0_sgn h x with e | e | e
    · simp [e]
    · simp [e] at hm ⊢; exact ih hm
    · simp [e] at hm
theorem turned_cmpr {n : Nat} {c : List Int} (h : Cmpr n c) : Cmpr n (c.map fun x => -x) := by
  refine ⟨by simpa using h.len, fun x hx => ?_⟩
  obtain ⟨y, hy, rfl⟩ := List.mem_map.mp hx
  rcases h.sg y hy with e | e | e <;> simp [e, sgn]
theorem hF__law_fitting : ∀ ds Q, F__law_fitting ds Q → ds.length = 4 ∧ mb__law_fitting { nx := fun _ => Q .non, rt := Q } (dstart 7 ds) := by
  rintro ds Q ⟨n, m, r, rfl, hn, hm, hr, hP⟩
  refine ⟨rfl, ?_⟩
  simp [mb__law_fitting, dstart]
  refine ⟨by omega, loop_ind (fun ds env => ∃ cs : List (List Int), ∃ x y, cs.length + ds.length = m ∧ (∀ c ∈ cs, Cmpr n c ∧ meets r c = true) ∧ env = [some (.val .pool), some (.val (dN n)), some (.val (dN m)), some (.val (tN r)), some (.own (cs.map tI)), x, y]) ?_ ?_ _ _ ⟨[], _, _, by simp [intsD_length], by simp, rfl⟩⟩
  · rintro env ⟨cs, x, y, hl, hc, rfl⟩
    simp at hl ⊢
    exact hP cs hl hc
  · rintro d ds Kk env hK ⟨cs, x, y, hl, hc, rfl⟩
    have hl' : cs.length < 16777216 := by simp at hl; omega
    simp
    refine ⟨n, rfl, hn, fun c hcm => ?_⟩
    simp
    refine ⟨r, c, rfl, fun x hx => by rw [hcm.len]; exact hr x hx, ?_⟩
    cases hm : meets r c with
    | true =>
      simp [hl']
      refine hK _ ⟨cs ++ [c], some (.val d), some (.val (tI c)), by simp at hl ⊢; omega, ?_, by simp⟩
      intro c' hc'
      rcases List.mem_append.mp hc' with h | h
      · exact hc c' h
      · rw [List.mem_singleton.mp h]; exact ⟨hcm, hm⟩
    | false =>
      simp
      refine ⟨c, rfl, by rw [hcm.len]; exact hn, ?_⟩
      simp [hl']
      refine hK _ ⟨cs ++ [c.map fun x => -x], some (.val d), some (.val (tI c)), by simp at hl ⊢; omega, ?_, by simp⟩
      intro c' hc'
      rcases List.mem_append.mp hc' with h | h
      · exact hc c' h
      · rw [List.mem_singleton.mp h]; exact ⟨turned_cmpr hcm, meets_turned hcm r hm⟩
theorem hF__law_rows : ∀ ds Q, F__law_rows ds Q → ds.length = 3 ∧ mb__law_rows { nx := fun _ => Q .non, rt := Q } (dstart 7 ds) := by
  rintro ds Q ⟨n, m, rfl, hn, hm, hP⟩
  refine ⟨rfl, ?_⟩
  simp [mb__law_rows, dstart]
  refine draw_nat (m + 1) rfl (by omega) (by omega) fun many hmany => ?_
  refine draw_nat 3 rfl (by omega) (by omega) fun z hz => ?_
  by_cases hz0 : 0 < z
  · simp [hz0]
    refine ⟨n, rfl, hn, fun r hr => ?_⟩
    have hrn : ∀ x ∈ r, x < n := fun x hx => List.mem_range.mp (hr.mem_iff.mp hx)
    refine ⟨n, many, r, rfl, hn, by omega, hrn, fun cs hl hc => ?_⟩
    by_cases h1 : (1 : Int) < (many : Int)
    · simp [h1]
      refine draw_nat 2 rfl (by omega) (by omega) fun y hy => ?_
      by_cases hy0 : y = 0
      · simp [hy0]
        refine draw_nat many rfl (by omega) (by omega) fun a ha => ?_
        have hx : cs[a]? = some cs[a] := List.getElem?_eq_getElem (by omega)
        have hca := (hc cs[a] (List.getElem_mem (by omega))).1
        simp [atI_nat, hx]
        refine ⟨cs[a], rfl, by rw [hca.len]; exact hn, ?_⟩
        have e1 : cut (cs.map tI) none (some (a : Int)) = (cs.take a).map tI := by rw [cut_take, List.map_take]
        have e2 : cut (cs.map tI) (some ((a : Int) + 1)) none = (cs.drop (a + 1)).map tI := by rw [cut_drop' _ _ (by omega), List.map_drop]; rfl
        simp [e1, e2]
        refine ⟨by omega, by omega, ?_⟩
        have := hP (cs.take a ++ cs[a].map (fun x => -x) :: cs.drop (a + 1)) (by simp; omega) (fun c h => ?_)
        · simpa [lI] using this
        · rcases List.mem_append.mp h with h | h
          · exact (hc c (List.mem_of_mem_take h)).1
          · rcases List.mem_cons.mp h with rfl | h
            · exact turned_cmpr hca
            · exact (hc c (List.mem_of_mem_drop h)).1
      · simp [hy0]
        exact hP cs (by omega) fun c h => (hc c h).1
    · simp [h1]
      exact hP cs (by omega) fun c h => (hc c h).1
  · simp [hz0, intsD_length]
    refine ⟨by omega, by omega, lc_all tI (Cmpr n) (fun d hd Kk Kn hx => ?_) fun xs hl ho => ?_⟩
    · simp
      exact ⟨n, rfl, hn, hx⟩
    · exact hP xs (by rw [hl, intsD_length]; omega) ho
end DL

set_option Elab.async false
set_option linter.all false
set_option autoImplicit false
set_option maxRecDepth 100000
/-! DC2: rankings, fusions, reaching. -/
namespace DL
open PySem (Str)
@[simp] theorem plainT (c : List Int) : plain DP (.tup (c.map D.int)) = true := plain_tI 59 c
@[simp] theorem plainL (c : List Int) : plain DP (.lst (c.map D.int)) = true := by
  show plain (59 + 1) _ = true
  simp only [plain]; exact plains_all 59 _ (by simp)
@[simp] theorem plainTN (c : List Nat) : plain DP (.tup (c.map dN)) = true := plain_tN 59 c
@[simp] theorem dIn_int (c : List Int) (v : Int) : dIn (.int v) (c.map D.int) = decide (v ∈ c) := by
  induction c with
  | nil => rfl
  | cons x c ih =>
    have e : dIn (.int v) ((x :: c).map D.int) = (peq (.int x) (.int v) || dIn (.int v) (c.map D.int)) := rfl
    rw [e, ih, peq_ii]
    by_cases h : v = x
    · subst h; simp
    · have : (x == v) = false := by simp; exact fun e => h e.symm
      simp [h, this]
@[simp] theorem dIn_nat (c : List Nat) (v : Nat) : dIn (.int (v : Int)) (c.map dN) = decide (v ∈ c) := by
  induction c with
  | nil => rfl
  | cons x c ih =>
    have e : dIn (.int (v : Int)) ((x :: c).map dN) = (peq (.int (x : Int)) (.int (v : Int)) || dIn (.int (v : Int)) (c.map dN)) := rfl
    rw [e, ih, peq_ii]
    by_cases h : v = x
    · subst h; simp
    · have : ((x : Int) == (v : Int)) = false := by simp; omega
      simp [h, this]
/-! ### fusions -/
def fusedN (col : List Int) : Int := if -1 ∈ col then -1 else if 1 ∈ col then 1 else 0
def F_fused_number : FD := fun ds P => ∃ col : List Int, ds = [.lst (col.map D.int)] ∧ P (.int (fusedN col))
def colOf (rows : List (List Int)) (k : Nat) : List Int := rows.map fun c => at0 c k
def fusion (n : Nat) (rows : List (List Int)) : List Int := (List.range n).map fun k => fusedN (colOf rows k)
def F_fused : FD := fun ds P => ∃ (n : Nat) (rows : List (List Int)), ds = [dN n, lI rows] ∧ n ≤ 1000 ∧ rows.length ≤ 1000 ∧ (∀ c ∈ rows, c.length = n) ∧ P (tI (fusion n rows))
abbrev F__law_fused := F_fused
/-! ### reaching -/
def reach : List Int → List Int → Bool
  | a :: one, b :: two => if (a = 1 ∧ b ≠ 1) ∨ (b = -1 ∧ a ≠ -1) then false else reach one two
  | _, _ => true
def F_reaches : FD := fun ds P => ∃ one two : List Int, ds = [tI one, tI two] ∧ one.length = two.length ∧ one.length ≤ 1000 ∧ P (.bl (reach one two))
abbrev F__law_reaches := F_reaches
def F__law_put : FD := fun ds P => ∃ (row : List D) (k : Nat) (v : D), ds = [.tup row, dN k, v] ∧ k < row.length ∧ row.length ≤ 1000 ∧ P (.tup (row.set k v))
def F__law_hopeless : FD := fun ds P => ∃ row : List Int, ds = [tI row] ∧ P (.bl (decide (-1 ∈ row) && !decide (1 ∈ row)))
/-! ### all rankings -/
def rk (n : Nat) : Nat → List (List Nat)
  | 0 => [[]]
  | k + 1 => (rk n k).flatMap fun one => ((List.range n).filter fun c => !decide (c ∈ one)).map fun c => one ++ [c]
abbrev lN (rs : List (List Nat)) : D := .lst (rs.map tN)
def F__law_rankings : FD := fun ds P => ∃ n : Nat, ds = [dN n] ∧ n ≤ 7 ∧ P (lN (rk n n))
def F__law_meets_all : FD := fun ds P => ∃ (r : List Nat) (rows : List (List Int)), ds = [tN r, lI rows] ∧ (∀ c ∈ rows, ∀ x ∈ r, x < c.length) ∧ rows.length ≤ 1000 ∧ P (.bl (rows.all (meets r)))
def F__law_met : FD := fun ds P => ∃ (n : Nat) (rows : List (List Int)), ds = [dN n, lI rows] ∧ n ≤ 7 ∧ rows.length ≤ 1000 ∧ (∀ c ∈ rows, c.length = n) ∧ P (lN ((rk n n).filter fun r => rows.all (meets r)))
def mb_fused_number : MS :=
  (sSeq (sIf (tVal (eBin oIn (eUn oNeg (eC (.int 1))) (eVar 0))) (sRet (eUn oNeg (eC (.int 1)))) sNop)
    (sRet (eIf (tVal (eBin oIn (eC (.int 1)) (eVar 0))) (eC (.int 1)) (eC (.int 0)))))

def mb_fused : MS :=
  (sSeq (sSet 4 (eFr (fLc (iRange1 (eVar 0)) (DL.gName 2) tNone (eFr (fLc (iSeq (eVar 1)) (DL.gName 3) tNone (eBin oIx (eVar 3) (eVar 2)) [3])) [2])))
    (sRet (eTupleG (iSeq (eVar 4)) (DL.gName 5) tNone (eCall F_fused_number (aCons (eVar 5) aNil)) [5])))

def mb_reaches : MS :=
  (sSeq (sFor (iZip (eVar 0) (eVar 1)) (DL.gTup (DL.gCons (DL.gName 2) (DL.gCons (DL.gName 3) DL.gNil)))
    (sIf (DL.tOr (DL.tAnd (tVal (eBin oEq (eVar 2) (eC (.int 1)))) (tVal (eBin oNe (eVar 3) (eC (.int 1))))) (DL.tAnd (tVal (eBin oEq (eVar 3) (eUn oNeg (eC (.int 1))))) (tVal (eBin oNe (eVar 2) (eUn oNeg (eC (.int 1))))))) (sRet (eC (.bl false))) sNop))
    (sRet (eC (.bl true))))

def mb__law_fused : MS :=
  (sSeq (sSetOwn 2 (fLst aNil))
    (sSeq (sFor (iRange1 (eVar 0)) (DL.gName 3)
    (sSeq (sSet 5 (eFr (fLc (iSeq (eVar 1)) (DL.gName 4) tNone (eBin oIx (eVar 4) (eVar 3)) [4])))
    (sAppend 2 (eIf (tVal (eBin oIn (eUn oNeg (eC (.int 1))) (eVar 5))) (eUn oNeg (eC (.int 1))) (eIf (tVal (eBin oIn (eC (.int 1)) (eVar 5))) (eC (.int 1)) (eC (.int 0)))))))
    (sFrz 2 (sRet (eCall fTuple (aCons (eVar 2) aNil))))))

def mb__law_reaches : MS :=
  (sSeq (sFor (iRange1 (eCall fLen (aCons (eVar 0) aNil))) (DL.gName 2)
    (sSeq (sIf (DL.tAnd (tVal (eBin oEq (eBin oIx (eVar 0) (eVar 2)) (eC (.int 1)))) (tVal (eBin oNe (eBin oIx (eVar 1) (eVar 2)) (eC (.int 1))))) (sRet (eC (.bl false))) sNop)
    (sIf (DL.tAnd (tVal (eBin oEq (eBin oIx (eVar 1) (eVar 2)) (eUn oNeg (eC (.int 1))))) (tVal (eBin oNe (eBin oIx (eVar 0) (eVar 2)) (eUn oNeg (eC (.int 1)))))) (sRet (eC (.bl false))) sNop)))
    (sRet (eC (.bl true))))

def mb__law_put : MS :=
  (sRet (eBin oAdd (eBin oAdd (eCut (eVar 0) pNo (pAt (eVar 1))) (eTup (aCons (eVar 2) aNil))) (eCut (eVar 0) (pAt (eBin oAdd (eVar 1) (eC (.int 1)))) pNo)))

def mb__law_hopeless : MS :=
  (sRet (eAnd (eBin oIn (eUn oNeg (eC (.int 1))) (eVar 0)) (eBin oNotIn (eC (.int 1)) (eVar 0))))

def mb__law_rankings : MS :=
  (sSeq (sSet 1 (eFr (fLst (aCons (eTup aNil) aNil))))
    (sSeq (sFor (iRange1 (eVar 0)) (DL.gName 2)
    (sSeq (sSet 3 (eFr (fLst aNil)))
    (sSeq (sFor (iSeq (eVar 1)) (DL.gName 4)
    (sSet 3 (eBin oAdd (eVar 3) (eFr (fLc (iRange1 (eVar 0)) (DL.gName 5) (tVal (eBin oNotIn (eVar 5) (eVar 4))) (eBin oAdd (eVar 4) (eTup (aCons (eVar 5) aNil))) [5])))))
    (sSet 1 (eVar 3)))))
    (sRet (eVar 1))))

def mb__law_meets_all : MS :=
  (sRet (eBin oEq (eCall fLen (aCons (eFr (fLc (iSeq (eVar 1)) (DL.gName 2) (DL.tNot (tVal (eCall F__law_meets (aCons (eVar 0) (aCons (eVar 2) aNil))))) (eVar 2) [2])) aNil)) (eC (.int 0))))

def mb__law_met : MS :=
  (sRet (eFr (fLc (iSeq (eCall F__law_rankings (aCons (eVar 0) aNil))) (DL.gName 2) (tVal (eCall F__law_meets_all (aCons (eVar 2) (aCons (eVar 1) aNil)))) (eVar 2) [2])))

theorem hF_fused_number : ∀ ds Q, F_fused_number ds Q → ds.length = 1 ∧ mb_fused_number { nx := fun _ => Q .non, rt := Q } (dstart 1 ds) := by
  rintro ds Q ⟨col, rfl, hP⟩
  refine ⟨rfl, ?_⟩
  simp only [fusedN] at hP
  simp [mb_fused_number, dstart]
  by_cases h1 : -1 ∈ col
  · simpa [h1] using hP
  · by_cases h2 : 1 ∈ col <;> simpa [h1, h2] using hP
theorem atI_lI {rows : List (List Int)} {k : Nat} (h : k < rows.length) : atI (rows.map tI) (k : Int) = some (tI rows[k]) := by
  rw [atI_nat, List.getElem?_map, List.getElem?_eq_getElem h]; rfl
theorem hF_fused : ∀ ds Q, F_fused ds Q → ds.length = 2 ∧ mb_fused { nx := fun _ => Q .non, rt := Q } (dstart 6 ds) := by
  rintro ds Q ⟨n, rows, rfl, hn, hl, hc, hP⟩
  refine ⟨rfl, ?_⟩
  simp [mb_fused, dstart, intsD_length]
  refine ⟨by omega, by omega, lc_map (fun d => match d with | .int k => .lst ((colOf rows k.toNat).map D.int) | d => d) (fun d hd Kk Kn h => ?_) _ ?_⟩
  · obtain ⟨k, hk, rfl⟩ := mem_intsD hd
    simp at h ⊢
    refine ⟨by omega, lc_map (fun d => match d with | .tup c => (atI c k).getD .non | d => d) (fun d hd Kk Kn h => ?_) _ ?_⟩
    · obtain ⟨c, hcm, rfl⟩ := List.mem_map.mp hd
      have hx := atI_tI (c := c) (x := k) (by rw [hc c hcm]; exact hk)
      simp [hx] at h ⊢
      exact h
    · have e : (rows.map tI).map (fun d => match d with | .tup c => (atI c k).getD .non | d => d) = (colOf rows k).map D.int := by
        rw [colOf, List.map_map, List.map_map]
        refine List.map_congr_left fun c hcm => ?_
        have hx := atI_tI (c := c) (x := k) (by rw [hc c hcm]; exact hk)
        simp [Function.comp, hx]
      rw [e]
      simpa using h
  · simp [ints0, List.map_map]
    refine ⟨by omega, lc_map (fun d => match d with | .lst col => .int (fusedN (col.map fun d => match d with | .int i => i | _ => 0)) | d => d) (fun d hd Kk Kn h => ?_) _ ?_⟩
    · obtain ⟨k, hk, rfl⟩ := List.mem_map.mp hd
      simp [Function.comp] at h ⊢
      exact ⟨_, rfl, by simpa [List.map_map, Function.comp_def] using h⟩
    · simpa [List.map_map, Function.comp_def, fusion, tI] using hP
theorem hF__law_fused : ∀ ds Q, F__law_fused ds Q → ds.length = 2 ∧ mb__law_fused { nx := fun _ => Q .non, rt := Q } (dstart 6 ds) := by
  rintro ds Q ⟨n, rows, rfl, hn, hl, hc, hP⟩
  refine ⟨rfl, ?_⟩
  simp [mb__law_fused, dstart]
  refine ⟨by omega, loop_ind (fun ds env => ∃ (k m : Nat) (x y z : Option Sl), ds = intsD (k : Int) m ∧ k + m = n ∧ env = [some (.val (dN n)), some (.val (lI rows)), some (.own (((List.range k).map fun k => fusedN (colOf rows k)).map D.int)), x, y, z]) ?_ ?_ _ _ ⟨0, n, _, _, _, rfl, by omega, rfl⟩⟩
  · rintro env ⟨k, m, x, y, z, h, hk, rfl⟩
    cases m with
    | zero =>
      have : k = n := by omega
      subst this
      simpa [fusion, tI] using hP
    | succ m => cases h
  · rintro d ds Kk env hK ⟨k, m, x, y, z, h, hk, rfl⟩
    cases m with
    | zero => cases h
    | succ m =>
      cases h
      simp
      refine ⟨by omega, lc_map (fun d => match d with | .tup c => (atI c k).getD .non | d => d) (fun d hd Kk Kn h => ?_) _ ?_⟩
      · obtain ⟨c, hcm, rfl⟩ := List.mem_map.mp hd
        have hx := atI_tI (c := c) (x := k) (by rw [hc c hcm]; omega)
        simp [hx] at h ⊢
        exact h
      · have e : (rows.map tI).map (fun d => match d with | .tup c => (atI c k).getD .non | d => d) = (colOf rows k).map D.int := by
          rw [colOf, List.map_map, List.map_map]
          refine List.map_congr_left fun c hcm => ?_
          have hx := atI_tI (c := c) (x := k) (by rw [hc c hcm]; omega)
          simp [Function.comp, hx]
        rw [e]
        simp
        have fin : ∀ v, fusedN (colOf rows k) = v → k < 16777216 → Kk ([some (Sl.val (dN n)), some (Sl.val (lI rows)), some (Sl.own (List.map (D.int ∘ fun k => fusedN (colOf rows k)) (List.range k) ++ [D.int v])), some (Sl.val (D.int (k : Int))), y, some (Sl.val (D.lst (List.map D.int (colOf rows k))))]) := fun v hv _ => by
          refine hK _ ⟨k + 1, m, some (.val (.int (k : Int))), y, some (.val (.lst ((colOf rows k).map D.int))), rfl, by omega, ?_⟩
          rw [List.range_succ]
          simp [hv]
        have hk' : k < 16777216 := by omega
        by_cases h1 : -1 ∈ colOf rows k
        · simp [h1, hk']
          exact fin (-1) (by simp [fusedN, h1]) hk'
        · by_cases h2 : 1 ∈ colOf rows k
          · simp [h1, h2, hk']
            exact fin 1 (by simp [fusedN, h1, h2]) hk'
          · simp [h1, h2, hk']
            exact fin 0 (by simp [fusedN, h1, h2]) hk'
theorem hF_reaches : ∀ ds Q, F_reaches ds Q → ds.length = 2 ∧ mb_reaches { nx := fun _ => Q .non, rt := Q } (dstart 4 ds) := by
  rintro ds Q ⟨one, two, rfl, hl, hn, hP⟩
  refine ⟨rfl, ?_⟩
  simp [mb_reaches, dstart]
  refine loop_ind (fun ds env => ∃ (a b : List Int) (x y : Option Sl), ds = zipT (a.map D.int) (b.map D.int) ∧ env = [some (.val (tI one)), some (.val (tI two)), x, y] ∧ Q (.bl (reach a b)) ∧ a.length = b.length) ?_ ?_ _ _ ⟨one, two, _, _, rfl, rfl, hP, hl⟩
  · rintro env ⟨a, b, x, y, h, rfl, q, hl⟩
    cases a with
    | nil => simpa [reach] using q
    | cons a as => cases b with
      | nil => simp at hl
      | cons b bs => cases h
  · rintro d ds Kk env hK ⟨a, b, x, y, h, rfl, q, hl⟩
    cases a with
    | nil => cases h
    | cons a as => cases b with
      | nil => cases h
      | cons b bs =>
        cases h
        simp only [reach] at q
        have fin : ¬ ((a = 1 ∧ b ≠ 1) ∨ (b = -1 ∧ a ≠ -1)) → Kk [some (Sl.val (tI one)), some (Sl.val (tI two)), some (Sl.val (D.int a)), some (Sl.val (D.int b))] := fun hc => by
          rw [if_neg hc] at q
          exact hK _ ⟨as, bs, _, _, rfl, rfl, q, by simpa using hl⟩
        have bad : ((a = 1 ∧ b ≠ 1) ∨ (b = -1 ∧ a ≠ -1)) → Q (.bl false) := fun hc => by rw [if_pos hc] at q; exact q
        simp
        by_cases h1 : a = 1
        · by_cases h2 : b = 1
          · subst h1; subst h2; simpa using fin (by decide)
          · simpa [h1, h2] using bad (.inl ⟨h1, h2⟩)
        · by_cases h3 : b = -1
          · by_cases h4 : a = -1
            · subst h3; subst h4; simpa using fin (by decide)
            · simpa [h1, h3, h4] using bad (.inr ⟨h3, h4⟩)
          · simpa [h1, h3] using fin (fun h => h.elim (fun h => h1 h.1) (fun h => h3 h.1))
theorem hF__law_reaches : ∀ ds Q, F__law_reaches ds Q → ds.length = 2 ∧ mb__law_reaches { nx := fun _ => Q .non, rt := Q } (dstart 3 ds) := by
  rintro ds Q ⟨one, two, rfl, hl, hn, hP⟩
  refine ⟨rfl, ?_⟩
  simp [mb__law_reaches, dstart]
  refine ⟨by omega, loop_ind (fun ds env => ∃ (k : Nat) (a b : List Int) (x : Option Sl), ds = intsD (k : Int) a.length ∧ a = one.drop k ∧ b = two.drop k ∧ env = [some (.val (tI one)), some (.val (tI two)), x] ∧ Q (.bl (reach a b)) ∧ a.length = b.length) ?_ ?_ _ _ ⟨0, one, two, _, rfl, rfl, rfl, rfl, hP, hl⟩⟩
  · rintro env ⟨k, a, b, x, h, ha, hb, rfl, q, hl⟩
    cases a with
    | nil => simpa [reach] using q
    | cons a as => cases h
  · rintro d ds Kk env hK ⟨k, a, b, x, h, ha, hb, rfl, q, hl⟩
    cases a with
    | nil => cases h
    | cons a as => cases b with
      | nil => simp at hl
      | cons b bs =>
        cases h
        have e1 : one[k]? = some a := by rw [← List.head?_drop, ← ha]; rfl
        have e2 : two[k]? = some b := by rw [← List.head?_drop, ← hb]; rfl
        simp only [reach] at q
        have fin : ¬ ((a = 1 ∧ b ≠ 1) ∨ (b = -1 ∧ a ≠ -1)) → Kk [some (Sl.val (tI one)), some (Sl.val (tI two)), some (Sl.val (D.int (k : Int)))] := fun hc => by
          rw [if_neg hc] at q
          refine hK _ ⟨k + 1, as, bs, _, rfl, ?_, ?_, rfl, q, by simpa using hl⟩
          · have := congrArg List.tail ha; rw [List.tail_drop] at this; exact this
          · have := congrArg List.tail hb; rw [List.tail_drop] at this; exact this
        have bad : ((a = 1 ∧ b ≠ 1) ∨ (b = -1 ∧ a ≠ -1)) → Q (.bl false) := fun hc => by rw [if_pos hc] at q; exact q
        simp [atI_nat, e1, e2]
        by_cases h1 : a = 1
        · by_cases h2 : b = 1
          · subst h1; subst h2; simpa using fin (by decide)
          · simpa [h1, h2] using bad (.inl ⟨h1, h2⟩)
        · by_cases h3 : b = -1
          · by_cases h4 : a = -1
            · subst h3; subst h4; simpa using fin (by decide)
            · simpa [h1, h3, h4] using bad (.inr ⟨h3, h4⟩)
          · simpa [h1, h3] using fin (fun h => h.elim (fun h => h1 h.1) (fun h => h3 h.1))
theorem set_cut {α : Type} : ∀ (xs : List α) (k : Nat) (v : α), k < xs.length → xs.take k ++ v :: xs.drop (k + 1) = xs.set k v
  | x :: xs, 0, v, _ => rfl
  | x :: xs, k + 1, v, h => by simp only [List.take_succ_cons, List.drop_succ_cons, List.cons_append, List.set_cons_succ]; rw [set_cut xs k v (by simpa using h)]
theorem set_cutD (row : List D) (k : Nat) (v : D) (h : k < row.length) : row.take k ++ v :: row.drop (k + 1) = row.set k v := by
  rw [List.set_eq_take_append_cons_drop, if_pos h]
theorem hF__law_put : ∀ ds Q, F__law_put ds Q → ds.length = 3 ∧ mb__law_put { nx := fun _ => Q .non, rt := Q } (dstart 3 ds) := by
  rintro ds Q ⟨row, k, v, rfl, hk, hl, hP⟩
  refine ⟨rfl, ?_⟩
  have e1 : cut row none (some (k : Int)) = row.take k := cut_take _ _
  have e2 : cut row (some ((k : Int) + 1)) none = row.drop (k + 1) := by rw [cut_drop' _ _ (by omega)]; rfl
  simp [mb__law_put, dstart, e1, e2]
  refine ⟨by omega, by omega, ?_⟩
  rw [← set_cutD row k v hk] at hP
  exact hP
theorem hF__law_hopeless : ∀ ds Q, F__law_hopeless ds Q → ds.length = 1 ∧ mb__law_hopeless { nx := fun _ => Q .non, rt := Q } (dstart 1 ds) := by
  rintro ds Q ⟨row, rfl, hP⟩
  refine ⟨rfl, ?_⟩
  simp [mb__law_hopeless, dstart]
  by_cases h : -1 ∈ row <;> simpa [h] using hP
/-- choosing -/
theorem lc_filter {α : Type} {g : MG} {t : MT} {e : ME} {b : DEnv} {P : List D → Prop} (f : α → D) (p : α → Bool) {xs : List α}
    (h1 : ∀ x, x ∈ xs → ∀ (Kk : D → Prop) (Kn : Prop), (if p x = true then Kk (f x) else Kn) → g (f x) b fun e1 => t e1 fun k e2 => if k = true then e e2 fun y _ => Kk y else Kn) (acc : List D) (h : P (acc ++ (xs.filter p).map f)) : lcLoop g t e b P (xs.map f) acc := by
  induction xs generalizing acc with
  | nil => simpa [lcLoop] using h
  | cons x xs ih =>
    refine h1 x (List.mem_cons_self ..) (fun y => lcLoop g t e b P (xs.map f) (acc ++ [y])) _ ?_
    by_cases hp : p x = true
    · rw [if_pos hp]
      refine ih (fun x hx => h1 x (List.mem_cons_of_mem _ hx)) _ ?_
      rw [List.filter_cons_of_pos hp] at h
      simpa using h
    · rw [if_neg hp]
      refine ih (fun x hx => h1 x (List.mem_cons_of_mem _ hx)) _ ?_
      rw [List.filter_cons_of_neg hp] at h
      exact h
/-- choosing, with a value of its own -/
theorem lc_filterMap {α : Type} {g : MG} {t : MT} {e : ME} {b : DEnv} {P : List D → Prop} (f : α → D) (v : α → D) (p : α → Bool) {xs : List α}
    (h1 : ∀ x, x ∈ xs → ∀ (Kk : D → Prop) (Kn : Prop), (if p x = true then Kk (v x) else Kn) → g (f x) b fun e1 => t e1 fun k e2 => if k = true then e e2 fun y _ => Kk y else Kn) (acc : List D) (h : P (acc ++ (xs.filter p).map v)) : lcLoop g t e b P (xs.map f) acc := by
  induction xs generalizing acc with
  | nil => simpa [lcLoop] using h
  | cons x xs ih =>
    refine h1 x (List.mem_cons_self ..) (fun y => lcLoop g t e b P (xs.map f) (acc ++ [y])) _ ?_
    by_cases hp : p x = true
    · rw [if_pos hp]
      refine ih (fun x hx => h1 x (List.mem_cons_of_mem _ hx)) _ ?_
      rw [List.filter_cons_of_pos hp] at h
      simpa using h
    · rw [if_neg hp]
      refine ih (fun x hx => h1 x (List.mem_cons_of_mem _ hx)) _ ?_
      rw [List.filter_cons_of_neg hp] at h
      exact h
theorem rk_len (n k : Nat) : (rk n k).length ≤ n ^ k := by
  induction k with
  | zero => simp [rk]
  | succ k ih =>
    rw [rk, List.length_flatMap]
    have : ((rk n k).map fun one => (((List.range n).filter fun c => !decide (c ∈ one)).map fun c => one ++ [c]).length).sum ≤ (rk n k).length * n := by
      generalize rk n k = l
      induction l with
      | nil => simp
      | cons a l ih =>
        simp only [List.map_cons, List.sum_cons, List.length_map, List.length_cons]
        have h1 := List.length_filter_le (fun c => !decide (c ∈ a)) (List.range n)
        rw [List.length_range] at h1
        rw [Nat.add_mul, Nat.one_mul]
        simp only [List.length_map] at ih
        omega
    exact Nat.le_trans this (by rw [Nat.pow_succ]; exact Nat.mul_le_mul_right _ ih)
theorem rk_len7 {n k : Nat} (hn : n ≤ 7) (hk : k ≤ 7) : (rk n k).length ≤ 823543 := by
  refine Nat.le_trans (rk_len n k) (Nat.le_trans (Nat.pow_le_pow_left hn k) (Nat.le_trans (Nat.pow_le_pow_right (by omega) hk) (by decide)))
theorem rk_mem {n k : Nat} {r : List Nat} (h : r ∈ rk n k) : r.length = k ∧ r.Nodup ∧ ∀ x ∈ r, x < n := by
  induction k generalizing r with
  | zero => simp [rk] at h; subst h; simp
  | succ k ih =>
    rw [rk, List.mem_flatMap] at h
    obtain ⟨one, h1, h2⟩ := h
    obtain ⟨c, hc, rfl⟩ := List.mem_map.mp h2
    obtain ⟨hc1, hc2⟩ := List.mem_filter.mp hc
    obtain ⟨a, b, d⟩ := ih h1
    have hc2 : c ∉ one := by simpa using hc2
    refine ⟨by simp [a], ?_, fun x hx => ?_⟩
    · rw [List.nodup_append]
      refine ⟨b, by simp, fun x hx y hy => ?_⟩
      rw [List.mem_singleton.mp hy]
      exact fun z => hc2 (z ▸ hx)
    · rcases List.mem_append.mp hx with hx | hx
      · exact d x hx
      · rw [List.mem_singleton.mp hx]; exact List.mem_range.mp hc1
theorem hF__law_rankings : ∀ ds Q, F__law_rankings ds Q → ds.length = 1 ∧ mb__law_rankings { nx := fun _ => Q .non, rt := Q } (dstart 6 ds) := by
  rintro ds Q ⟨n, rfl, hn, hP⟩
  refine ⟨rfl, ?_⟩
  simp [mb__law_rankings, dstart]
  refine ⟨by omega, loop_ind (fun ds env => ∃ (k m : Nat) (x y z w : Option Sl), ds = intsD (k : Int) m ∧ k + m = n ∧ env = [some (.val (dN n)), some (.val (lN (rk n k))), x, y, z, w]) ?_ ?_ _ _ ⟨0, n, _, _, _, _, rfl, by omega, rfl⟩⟩
  · rintro env ⟨k, m, x, y, z, w, h, hk, rfl⟩
    cases m with
    | zero =>
      have : k = n := by omega
      subst this
      simpa using hP
    | succ m => cases h
  · rintro d ds Kk env hK ⟨k, m, x, y, z, w, h, hk, rfl⟩
    cases m with
    | zero => cases h
    | succ m =>
      cases h
      simp
      refine loop_ind (fun ds env => ∃ (pre rest : List (List Nat)) (z w : Option Sl), ds = rest.map tN ∧ rk n k = pre ++ rest ∧ env = [some (.val (dN n)), some (.val (lN (rk n k))), some (.val (dN k)), some (.val (lN (pre.flatMap fun one => ((List.range n).filter fun c => !decide (c ∈ one)).map fun c => one ++ [c]))), z, w]) ?_ ?_ _ _ ⟨[], rk n k, _, _, rfl, rfl, rfl⟩
      · rintro env ⟨pre, rest, z, w, h, he, rfl⟩
        have : rest = [] := List.eq_nil_of_map_eq_nil h.symm
        subst this
        simp at he ⊢
        have e : (pre.flatMap fun one => ((List.range n).filter fun c => !decide (c ∈ one)).map fun c => one ++ [c]) = rk n (k + 1) := by rw [rk, he]
        rw [e]
        exact hK _ ⟨k + 1, m, _, _, _, _, rfl, by omega, rfl⟩
      · rintro d ds Kk2 env hK2 ⟨pre, rest, z, w, h, he, rfl⟩
        cases rest with
        | nil => cases h
        | cons one rest =>
          cases h
          have hlen : ∀ l : List (List Nat), (∃ r, rk n k = l ++ r) → (l.flatMap fun one => ((List.range n).filter fun c => !decide (c ∈ one)).map fun c => one ++ [c]).length ≤ 823543 := fun l ⟨r, hr⟩ => by
            refine Nat.le_trans ?_ (rk_len7 (n := n) (k := k + 1) hn (by omega))
            rw [rk, hr, List.flatMap_append, List.length_append]
            omega
          simp [intsD_length]
          refine ⟨by omega, by omega, ?_⟩
          rw [ints0]
          refine lc_filterMap dN (fun c => tN (one ++ [c])) (fun c => !decide (c ∈ one)) (fun c hc Kk Kn h => ?_) _ ?_
          · obtain ⟨a1, _, _⟩ := rk_mem (n := n) (k := k) (r := one) (by rw [he]; simp)
            have h60 : one.length < 16777216 := by omega
            simp at h ⊢
            by_cases hm : c ∈ one
            · simpa [hm] using h
            · have : one.length ≤ 16777215 := by omega
              simpa [hm, this, tN] using h
          · have h1 := hlen (pre ++ [one]) ⟨rest, by rw [he]; simp⟩
            simp only [List.flatMap_append, List.length_append, List.flatMap_cons, List.flatMap_nil, List.append_nil, List.length_map] at h1
            simp
            exact ⟨by simp at h1; omega, hK2 _ ⟨pre ++ [one], rest, some (.val (tN one)), w, rfl, by rw [he]; simp, by simp⟩⟩
theorem hF__law_meets_all : ∀ ds Q, F__law_meets_all ds Q → ds.length = 2 ∧ mb__law_meets_all { nx := fun _ => Q .non, rt := Q } (dstart 3 ds) := by
  rintro ds Q ⟨r, rows, rfl, hr, hl, hP⟩
  refine ⟨rfl, ?_⟩
  simp [mb__law_meets_all, dstart]
  refine ⟨by omega, lc_filter tI (fun c => !meets r c) (fun c hc Kk Kn h => ?_) _ ?_⟩
  · simp at h ⊢
    refine ⟨r, c, rfl, hr c hc, ?_⟩
    cases hm : meets r c <;> simp [hm] at h ⊢ <;> exact h
  · have e : (((rows.filter fun c => !meets r c).length : Int) == 0) = rows.all (meets r) := by
      rw [Bool.eq_iff_iff]
      simp
    simp only [List.nil_append, List.length_map]
    rw [e]; exact hP
theorem hF__law_met : ∀ ds Q, F__law_met ds Q → ds.length = 2 ∧ mb__law_met { nx := fun _ => Q .non, rt := Q } (dstart 3 ds) := by
  rintro ds Q ⟨n, rows, rfl, hn, hl, hc, hP⟩
  refine ⟨rfl, ?_⟩
  have h7 := rk_len7 (n := n) (k := n) hn hn
  simp [mb__law_met, dstart]
  refine ⟨n, rfl, hn, ?_⟩
  simp
  refine ⟨by omega, lc_filter tN (fun r => rows.all (meets r)) (fun r hr Kk Kn h => ?_) _ (by simpa using hP)⟩
  simp at h ⊢
  refine ⟨r, rows, rfl, fun c hcm x hx => by rw [hc c hcm]; exact (rk_mem hr).2.2 x hx, hl, ?_⟩
  cases hm : rows.all (meets r) with
  | true => rw [List.all_eq_true] at hm; simpa [if_pos hm] using h
  | false =>
    have : ¬ ∀ x ∈ rows, meets r x = true := fun z => by rw [← List.all_eq_true, hm] at z; cases z
    simpa [if_neg this] using h
end DL

set_option Elab.async false
set_option linter.all false
set_option autoImplicit false
set_option maxRecDepth 100000
/-! DC4: tableaux, winners. -/
namespace DL
open PySem (Str)
/-! ### the order of rows -/
theorem lexLt_irrefl : ∀ a : List Int, lexLt a a = false
  | [] => rfl
  | x :: a => by simp [lexLt, lexLt_irrefl a]
theorem lexLt_trans : ∀ a b c : List Int, lexLt a b = true → lexLt b c = true → lexLt a c = true
  | [], [], _, h, _ => by simp [lexLt] at h
  | [], _ :: _, [], _, h => by simp [lexLt] at h
  | [], _ :: _, _ :: _, _, _ => rfl
  | _ :: _, [], _, h, _ => by simp [lexLt] at h
  | _ :: _, _ :: _, [], _, h => by simp [lexLt] at h
  | x :: a, y :: b, z :: c, h1, h2 => by
    simp only [lexLt] at h1 h2 ⊢
    by_cases e1 : x = y
    · subst e1
      rw [if_pos rfl] at h1
      by_cases e2 : x = z
      · subst e2
        rw [if_pos rfl] at h2 ⊢
        exact lexLt_trans a b c h1 h2
      · rw [if_neg e2] at h2 ⊢; exact h2
    · rw [if_neg e1] at h1
      have h1 := of_decide_eq_true h1
      by_cases e2 : y = z
      · subst e2
        rw [if_neg e1]; exact decide_eq_true h1
      · rw [if_neg e2] at h2
        have h2 := of_decide_eq_true h2
        rw [if_neg (by omega)]; exact decide_eq_true (by omega)
theorem lexLt_tri : ∀ a b : List Int, lexLt a b = false → lexLt b a = false → a = b
  | [], [], _, _ => rfl
  | [], _ :: _, h, _ => by simp [lexLt] at h
  | _ :: _, [], _, h => by simp [lexLt] at h
  | x :: a, y :: b, h1, h2 => by
    simp only [lexLt] at h1 h2
    by_cases e : x = y
    · subst e
      rw [if_pos rfl] at h1 h2
      rw [lexLt_tri a b h1 h2]
    · rw [if_neg e] at h1
      rw [if_neg (Ne.symm e)] at h2
      have h1 := of_decide_eq_false h1
      have h2 := of_decide_eq_false h2
      omega
theorem minR_spec : ∀ (xs : List (List Int)) (x : List Int), minR x xs ∈ x :: xs ∧ ∀ y ∈ x :: xs, lexLt y (minR x xs) = false
  | [], x => ⟨by simp [minR], fun y hy => by simp at hy; subst hy; exact lexLt_irrefl _⟩
  | z :: xs, x => by
    have e : minR x (z :: xs) = minR (if lexLt z x = true then z else x) xs := rfl
    rw [e]
    obtain ⟨h1, h2⟩ := minR_spec xs (if lexLt z x = true then z else x)
    refine ⟨?_, fun y hy => ?_⟩
    · rcases List.mem_cons.mp h1 with h | h
      · rw [h]
        split <;> simp
      · exact List.mem_cons_of_mem _ (List.mem_cons_of_mem _ h)
    · have hb := h2 _ (List.mem_cons_self ..)
      have low : ∀ u, lexLt (if lexLt z x = true then z else x) u = true ∨ (if lexLt z x = true then z else x) = u → lexLt u (minR (if lexLt z x = true then z else x) xs) = false := fun u hu => by
        cases hc : lexLt u (minR (if lexLt z x = true then z else x) xs) with
        | false => rfl
        | true =>
          rcases hu with hu | hu
          · rw [lexLt_trans _ _ _ hu hc] at hb; cases hb
          · rw [← hu] at hc; rw [hc] at hb; cases hb
      rcases List.mem_cons.mp hy with rfl | hy
      · by_cases hz : lexLt z y = true
        · exact low y (.inl (by rw [if_pos hz]; exact hz))
        · exact low y (.inr (by rw [if_neg hz]))
      · rcases List.mem_cons.mp hy with rfl | hy
        · by_cases hz : lexLt y x = true
          · exact low y (.inr (by rw [if_pos hz]))
          · have hz : lexLt y x = false := by simpa using hz
            simp only [hz] at hb low h2 ⊢
            by_cases hx : lexLt x y = true
            · exact low y (.inl (by simpa using hx))
            · have : x = y := lexLt_tri _ _ (by simpa using hx) hz
              exact low y (.inr (by simpa using this))
        · exact h2 y (List.mem_cons_of_mem _ hy)
/-! ### winners -/
def key (r : List Nat) (c : List Int) : List Int := r.map fun x => at0 c x
def rowAt (rows : List (List Int)) (k : Nat) : List Int := rows.getD k []
def win (r : List Nat) (rows : List (List Int)) (k : Nat) : Bool := rows.all fun o => !lexLt (key r o) (key r (rowAt rows k))
def winnersOf (r : List Nat) (rows : List (List Int)) : List Nat := (List.range rows.length).filter (win r rows)
abbrev tT (rows : List (List Int)) : D := .tup (rows.map tI)
def F_in_order_of : FD := fun ds P => ∃ (r : List Nat) (c : List Int), ds = [tN r, tI c] ∧ (∀ x ∈ r, x < c.length) ∧ r.length ≤ 1000 ∧ P (tI (key r c))
def F_beats : FD := fun ds P => ∃ (r : List Nat) (a b : List Int), ds = [tN r, tI a, tI b] ∧ (∀ x ∈ r, x < a.length) ∧ (∀ x ∈ r, x < b.length) ∧ r.length ≤ 1000 ∧ P (.bl (lexLt (key r a) (key r b)))
abbrev F__law_before := F_beats
def F_winners : FD := fun ds P => ∃ (r : List Nat) (rows : List (List Int)), ds = [tN r, tT rows] ∧ (∀ c ∈ rows, ∀ x ∈ r, x < c.length) ∧ r.length ≤ 1000 ∧ rows ≠ [] ∧ rows.length ≤ 1000 ∧ P (tN (winnersOf r rows))
abbrev F__law_winners := F_winners
def F_language : FD := fun ds P => ∃ (r : List Nat) (sys : List (List (List Int))), ds = [tN r, .tup (sys.map tT)] ∧ (∀ rows ∈ sys, (∀ c ∈ rows, ∀ x ∈ r, x < c.length) ∧ rows ≠ [] ∧ rows.length ≤ 1000) ∧ r.length ≤ 1000 ∧ sys.length ≤ 1000 ∧ P (.tup (sys.map fun rows => tN (winnersOf r rows)))
abbrev F__law_language := F_language
def F__law_pick : FD := fun ds P => ∃ xs : List D, (ds = [.pool, .lst xs] ∨ ds = [.pool, .tup xs] ∨ ∃ w : Str, ds = [.pool, .str w] ∧ xs = signsD w ∧ w.length ≤ LN) ∧ 0 < xs.length ∧ xs.length < 1000000000 ∧ ∀ d ∈ xs, P d
def F__law_marks : FD := fun ds P => ∃ top : Nat, ds = [.pool, dN top] ∧ top < 1000000000 ∧ ∀ v : Nat, v ≤ top → P (dN v)
def mark (top : Nat) (x : Int) : Prop := ∃ v : Nat, x = (v : Int) ∧ v ≤ top
structure Prof (n top : Nat) (c : List Int) : Prop where
  len : c.length = n
  mks : ∀ x ∈ c, mark top x
def F__law_profile : FD := fun ds P => ∃ n top : Nat, ds = [.pool, dN n, dN top] ∧ n ≤ 1000 ∧ top < 1000000000 ∧ ∀ c, Prof n top c → P (tI c)
structure Tabl (n most top : Nat) (rows : List (List Int)) : Prop where
  ne : rows ≠ []
  le : rows.length ≤ most
  pr : ∀ c ∈ rows, Prof n top c
def F__law_tableau : FD := fun ds P => ∃ n most top : Nat, ds = [.pool, dN n, dN most, dN top] ∧ n ≤ 1000 ∧ 0 < most ∧ most ≤ 1000 ∧ top < 1000000000 ∧ ∀ rows, Tabl n most top rows → P (tT rows)
def F__law_system : FD := fun ds P => ∃ n tabs most top : Nat, ds = [.pool, dN n, dN tabs, dN most, dN top] ∧ n ≤ 1000 ∧ 0 < tabs ∧ tabs ≤ 1000 ∧ 0 < most ∧ most ≤ 1000 ∧ top < 1000000000 ∧
  ∀ sys : List (List (List Int)), sys ≠ [] → sys.length ≤ tabs → (∀ rows ∈ sys, Tabl n most top rows) → P (.tup (sys.map tT))
def mb_in_order_of : MS :=
  (sRet (eTupleG (iSeq (eVar 0)) (DL.gName 2) tNone (eBin oIx (eVar 1) (eVar 2)) [2]))

def mb_beats : MS :=
  (sRet (eBin oLt (eCall F_in_order_of (aCons (eVar 0) (aCons (eVar 1) aNil))) (eCall F_in_order_of (aCons (eVar 0) (aCons (eVar 2) aNil)))))

def mb_winners : MS :=
  (sSeq (sSet 3 (eCall fMin1 (aCons (eFr (fLc (iSeq (eVar 1)) (DL.gName 2) tNone (eCall F_in_order_of (aCons (eVar 0) (aCons (eVar 2) aNil))) [2])) aNil)))
    (sSeq (sSet 5 (eFr (fLc (iEnum (eVar 1)) (DL.gTup (DL.gCons (DL.gName 4) (DL.gCons (DL.gName 2) DL.gNil))) (tVal (eBin oEq (eCall F_in_order_of (aCons (eVar 0) (aCons (eVar 2) aNil))) (eVar 3))) (eVar 4) [4, 2])))
    (sRet (eCall fTuple (aCons (eVar 5) aNil)))))

def mb_language : MS :=
  (sRet (eTupleG (iSeq (eVar 1)) (DL.gName 2) tNone (eCall F_winners (aCons (eVar 0) (aCons (eVar 2) aNil))) [2]))

def mb__law_pick : MS :=
  (sRet (eBin oIx (eVar 1) (eCall F__law_draw (aCons (eVar 0) (aCons (eCall fLen (aCons (eVar 1) aNil)) aNil)))))

def mb__law_before : MS :=
  (sSeq (sFor (iSeq (eVar 0)) (DL.gName 3)
    (sIf (tVal (eBin oNe (eBin oIx (eVar 1) (eVar 3)) (eBin oIx (eVar 2) (eVar 3)))) (sRet (eBin oLt (eBin oIx (eVar 1) (eVar 3)) (eBin oIx (eVar 2) (eVar 3)))) sNop))
    (sRet (eC (.bl false))))

def mb__law_winners : MS :=
  (sSeq (sSetOwn 2 (fLst aNil))
    (sSeq (sFor (iRange1 (eCall fLen (aCons (eVar 1) aNil))) (DL.gName 3)
    (sIf (tVal (eBin oEq (eCall fLen (aCons (eFr (fLc (iSeq (eVar 1)) (DL.gName 4) (tVal (eCall F__law_before (aCons (eVar 0) (aCons (eVar 4) (aCons (eBin oIx (eVar 1) (eVar 3)) aNil))))) (eVar 4) [4])) aNil)) (eC (.int 0)))) (sAppend 2 (eVar 3)) sNop))
    (sFrz 2 (sRet (eCall fTuple (aCons (eVar 2) aNil))))))

def mb__law_language : MS :=
  (sRet (eCall fTuple (aCons (eFr (fLc (iSeq (eVar 1)) (DL.gName 2) tNone (eCall F__law_winners (aCons (eVar 0) (aCons (eVar 2) aNil))) [2])) aNil)))

def mb__law_marks : MS :=
  (sSeq (sSet 2 (eCall F__law_draw (aCons (eVar 0) (aCons (eC (.int 6)) aNil))))
    (sSeq (sIf (tVal (eBin oLt (eVar 2) (eC (.int 4)))) (sRet (eCall fMin2 (aCons (eVar 1) (aCons (eCall F__law_draw (aCons (eVar 0) (aCons (eC (.int 3)) aNil))) aNil)))) sNop)
    (sRet (eIf (tVal (eBin oEq (eVar 2) (eC (.int 4)))) (eCall fMin2 (aCons (eVar 1) (aCons (eCall F__law_draw (aCons (eVar 0) (aCons (eC (.int 9)) aNil))) aNil))) (eCall F__law_draw (aCons (eVar 0) (aCons (eBin oAdd (eVar 1) (eC (.int 1))) aNil)))))))

def mb__law_profile : MS :=
  (sRet (eCall fTuple (aCons (eFr (fLc (iRange1 (eVar 1)) (DL.gName 3) tNone (eCall F__law_marks (aCons (eVar 0) (aCons (eVar 2) aNil))) [3])) aNil)))

def mb__law_tableau : MS :=
  (sSeq (sSetOwn 4 (fLst aNil))
    (sSeq (sFor (iRange1 (eBin oAdd (eC (.int 1)) (eCall F__law_draw (aCons (eVar 0) (aCons (eVar 2) aNil))))) (DL.gName 5)
    (sIf (DL.tAnd (tVal (eBin oGt (eOLen 4) (eC (.int 0)))) (tVal (eBin oEq (eCall F__law_draw (aCons (eVar 0) (aCons (eC (.int 5)) aNil))) (eC (.int 0))))) (sAppend 4 (eLend (eCall F__law_pick (aCons (eVar 0) (aCons (eVar 4) aNil))))) (sAppend 4 (eCall F__law_profile (aCons (eVar 0) (aCons (eVar 1) (aCons (eVar 3) aNil)))))))
    (sFrz 4 (sRet (eCall fTuple (aCons (eVar 4) aNil))))))

def mb__law_system : MS :=
  (sRet (eCall fTuple (aCons (eFr (fLc (iRange1 (eBin oAdd (eC (.int 1)) (eCall F__law_draw (aCons (eVar 0) (aCons (eVar 2) aNil))))) (DL.gName 5) tNone (eCall F__law_tableau (aCons (eVar 0) (aCons (eVar 1) (aCons (eVar 3) (aCons (eVar 4) aNil))))) [5])) aNil)))

theorem hF_in_order_of : ∀ ds Q, F_in_order_of ds Q → ds.length = 2 ∧ mb_in_order_of { nx := fun _ => Q .non, rt := Q } (dstart 3 ds) := by
  rintro ds Q ⟨r, c, rfl, hr, hl, hP⟩
  refine ⟨rfl, ?_⟩
  simp [mb_in_order_of, dstart]
  refine ⟨by omega, lc_map (fun d => match d with | .int x => .int (at0 c x.toNat) | d => d) (fun d hd Kk Kn h => ?_) _ ?_⟩
  · obtain ⟨x, hx, rfl⟩ := List.mem_map.mp hd
    have := atI_tI (c := c) (x := x) (hr x hx)
    simp [this] at h ⊢
    exact h
  · simpa [Function.comp_def, key, tI] using hP
theorem hF_beats : ∀ ds Q, F_beats ds Q → ds.length = 3 ∧ mb_beats { nx := fun _ => Q .non, rt := Q } (dstart 3 ds) := by
  rintro ds Q ⟨r, a, b, rfl, ha, hb, hl, hP⟩
  refine ⟨rfl, ?_⟩
  simp [mb_beats, dstart]
  refine ⟨r, a, rfl, ha, hl, r, b, rfl, hb, hl, ?_⟩
  exact ⟨_, rfl, _, rfl, hP⟩
theorem hF__law_before : ∀ ds Q, F__law_before ds Q → ds.length = 3 ∧ mb__law_before { nx := fun _ => Q .non, rt := Q } (dstart 4 ds) := by
  rintro ds Q ⟨r, a, b, rfl, ha, hb, hl, hP⟩
  refine ⟨rfl, ?_⟩
  simp [mb__law_before, dstart]
  refine loop_ind (fun ds env => ∃ r' x, ds = r'.map dN ∧ env = [some (.val (tN r)), some (.val (tI a)), some (.val (tI b)), x] ∧ (∀ x ∈ r', x < a.length) ∧ (∀ x ∈ r', x < b.length) ∧ Q (.bl (lexLt (key r' a) (key r' b)))) ?_ ?_ _ _ ⟨r, _, rfl, rfl, ha, hb, hP⟩
  · rintro env ⟨r', x, h, rfl, _, _, q⟩
    rw [List.eq_nil_of_map_eq_nil h.symm] at q
    simpa [key, lexLt] using q
  · rintro d ds Kk env hK ⟨r', x, h, rfl, ha', hb', q⟩
    cases r' with
    | nil => cases h
    | cons y r' =>
      cases h
      have e1 := atI_tI (c := a) (x := y) (ha' y (List.mem_cons_self ..))
      have e2 := atI_tI (c := b) (x := y) (hb' y (List.mem_cons_self ..))
      have q : Q (.bl (if at0 a y = at0 b y then lexLt (key r' a) (key r' b) else decide (at0 a y < at0 b y))) := q
      simp [e1, e2]
      by_cases h0 : at0 a y = at0 b y
      · simp [h0] at q ⊢
        exact hK _ ⟨r', _, rfl, rfl, fun x hx => ha' x (List.mem_cons_of_mem _ hx), fun x hx => hb' x (List.mem_cons_of_mem _ hx), q⟩
      · simpa [h0] using q
theorem enumT_range : ∀ (ds : List D) (k : Nat), enumT (k : Nat) ds = (List.range ds.length).map fun j => .tup [dN (k + j), ds.getD j .non]
  | [], _ => rfl
  | d :: ds, k => by
    rw [enumT]
    have := enumT_range ds (k + 1)
    rw [show ((k : Nat) : Int) + 1 = ((k + 1 : Nat) : Int) by omega, this, List.length_cons, List.range_succ_eq_map, List.map_cons, List.map_map]
    congr 1
    apply List.map_congr_left
    intro j _
    simp [Function.comp]; omega
theorem getD_rows (rows : List (List Int)) (k : Nat) (h : k < rows.length) : (rows.map tI).getD k .non = tI (rowAt rows k) := by
  simp [rowAt, List.getD_eq_getElem?_getD, h]
theorem rowAt_mem (rows : List (List Int)) (k : Nat) (h : k < rows.length) : rowAt rows k ∈ rows := by
  simp [rowAt, List.getD_eq_getElem?_getD, h]
/-- the least key is that of the winners -/
theorem win_min (r : List Nat) (x : List Int) (xs : List (List Int)) (k : Nat) (hk : k < (x :: xs).length) : win r (x :: xs) k = decide (key r (rowAt (x :: xs) k) = minR (key r x) (xs.map (key r))) := by
  obtain ⟨h1, h2⟩ := minR_spec (xs.map (key r)) (key r x)
  have hm := rowAt_mem (x :: xs) k hk
  by_cases h : key r (rowAt (x :: xs) k) = minR (key r x) (xs.map (key r))
  · rw [decide_eq_true h]
    unfold win
    rw [List.all_eq_true]
    intro o ho
    rw [h, h2 (key r o) (by rw [← List.map_cons]; exact List.mem_map_of_mem ho)]
    rfl
  · rw [decide_eq_false h]
    cases hw : win r (x :: xs) k with
    | false => rfl
    | true =>
      exfalso
      unfold win at hw
      rw [List.all_eq_true] at hw
      rw [← List.map_cons] at h1
      obtain ⟨o, ho, e⟩ := List.mem_map.mp h1
      have a1 := hw o ho
      rw [e] at a1
      have a2 := h2 (key r (rowAt (x :: xs) k)) (by rw [← List.map_cons]; exact List.mem_map_of_mem hm)
      exact h (lexLt_tri _ _ a2 (by simpa using a1))
theorem peqs_ints : ∀ a b : List Int, peqs (a.map D.int) (b.map D.int) = decide (a = b)
  | [], [] => by simp [peqs]
  | [], _ :: _ => by simp [peqs]
  | _ :: _, [] => by simp [peqs]
  | x :: a, y :: b => by
    rw [List.map_cons, List.map_cons]
    simp only [peqs, peqs_ints a b, peq_ii]
    by_cases h : x = y <;> simp [h]
theorem peq_rows (a b : List Int) : peq (.tup (a.map D.int)) (.tup (b.map D.int)) = decide (a = b) := by
  simp only [peq]; exact peqs_ints a b
theorem hF_winners : ∀ ds Q, F_winners ds Q → ds.length = 2 ∧ mb_winners { nx := fun _ => Q .non, rt := Q } (dstart 6 ds) := by
  rintro ds Q ⟨r, rows, rfl, hr, hl, hne, hrl, hP⟩
  refine ⟨rfl, ?_⟩
  obtain ⟨x, xs, rfl⟩ := List.exists_cons_of_ne_nil hne
  simp only [mb_winners, dstart]
  simp
  refine ⟨by simp at hrl; omega, ?_⟩
  rw [← List.map_cons (f := tI)]
  refine lc_map (fun d => match d with | .tup c => .tup ((key r (c.map fun d => match d with | .int i => i | _ => 0)).map D.int) | d => d) (fun d hd Kk Kn h => ?_) _ ?_
  · obtain ⟨c, hc, rfl⟩ := List.mem_map.mp hd
    simp [Function.comp_def] at h ⊢
    exact ⟨r, c, rfl, hr c hc, hl, h⟩
  · simp [Function.comp_def]
    refine ⟨_, .inl rfl, .inr ⟨key r x, xs.map (key r), by simp [Function.comp_def], ?_⟩⟩
    simp
    rw [← List.map_cons (f := tI)]
    have e : enumT 0 ((x :: xs).map tI) = (List.range (x :: xs).length).map fun j => .tup [dN (0 + j), ((x :: xs).map tI).getD j .non] := by
      have := enumT_range ((x :: xs).map tI) 0
      rw [List.length_map] at this
      exact this
    rw [e]
    refine ⟨by rw [List.length_map, List.length_range]; omega, lc_filterMap (fun j => .tup [dN (0 + j), ((x :: xs).map tI).getD j .non]) dN (win r (x :: xs)) (fun k hk Kk Kn h => ?_) _ hP⟩
    have hk := List.mem_range.mp hk
    rw [getD_rows _ _ hk]
    rw [win_min r x xs k hk] at h
    have hpl : ∀ c : List Int, plain DP (.tup (c.map D.int)) = true := fun c => plain_tI 59 c
    simp [hpl]
    refine ⟨r, _, rfl, hr _ (rowAt_mem _ k hk), hl, ?_⟩
    have ep : ∀ a b : List Int, peq (.tup (a.map D.int)) (.tup (b.map D.int)) = decide (a = b) := peq_rows
    simp [hpl, ep]
    by_cases hh : key r (rowAt (x :: xs) k) = minR (key r x) (xs.map (key r))
    · simpa [hh] using h
    · simpa [hh] using h
theorem hF__law_winners : ∀ ds Q, F__law_winners ds Q → ds.length = 2 ∧ mb__law_winners { nx := fun _ => Q .non, rt := Q } (dstart 5 ds) := by
  rintro ds Q ⟨r, rows, rfl, hr, hl, hne, hrl, hP⟩
  refine ⟨rfl, ?_⟩
  simp [mb__law_winners, dstart]
  refine ⟨by omega, loop_ind (fun ds env => ∃ (k m : Nat) (x y : Option Sl), ds = intsD (k : Int) m ∧ k + m = rows.length ∧ env = [some (.val (tN r)), some (.val (tT rows)), some (.own (((List.range k).filter (win r rows)).map dN)), x, y]) ?_ ?_ _ _ ⟨0, rows.length, _, _, rfl, by omega, rfl⟩⟩
  · rintro env ⟨k, m, x, y, h, hk, rfl⟩
    cases m with
    | zero =>
      have : k = rows.length := by omega
      subst this
      simpa [winnersOf] using hP
    | succ m => cases h
  · rintro d ds Kk env hK ⟨k, m, x, y, h, hk, rfl⟩
    cases m with
    | zero => cases h
    | succ m =>
      cases h
      have hk' : k < rows.length := by omega
      have hx : atI (rows.map tI) (k : Int) = some (tI (rowAt rows k)) := by
        rw [atI_lI hk']; simp [rowAt, List.getD_eq_getElem?_getD, hk']
      simp
      refine ⟨by omega, lc_filter tI (fun o => lexLt (key r o) (key r (rowAt rows k))) (fun o ho Kk Kn h => ?_) _ ?_⟩
      · simp [hx]
        refine ⟨r, o, rowAt rows k, rfl, hr o ho, hr _ (rowAt_mem rows k hk'), hl, ?_⟩
        simpa using h
      · have e : ((rows.filter fun o => lexLt (key r o) (key r (rowAt rows k))).length == 0) = win r rows k := by
          unfold win
          rw [Bool.eq_iff_iff]
          simp
        have e2 : (((rows.filter fun o => lexLt (key r o) (key r (rowAt rows k))).length : Int) == 0) = win r rows k := by
          rw [← e, Bool.eq_iff_iff]; simp
        simp only [List.nil_append, List.length_map]
        have hlen : ((List.range k).filter (win r rows)).length ≤ k := by
          have := List.length_filter_le (win r rows) (List.range k); rw [List.length_range] at this; exact this
        simp
        have next : ∀ y', Kk [some (.val (tN r)), some (.val (tT rows)), some (.own (((List.range (k + 1)).filter (win r rows)).map dN)), some (.val (.int (k : Int))), y'] := fun y' => hK _ ⟨k + 1, m, _, _, rfl, by omega, rfl⟩
        rw [List.range_succ, List.filter_append] at next
        have ew : (∀ a ∈ rows, lexLt (key r a) (key r (rowAt rows k)) = false) ↔ win r rows k = true := by
          unfold win; simp
        by_cases hw : win r rows k = true
        · rw [if_pos (ew.mpr hw)]
          refine ⟨by omega, ?_⟩
          simpa [hw] using next y
        · rw [if_neg (fun z => hw (ew.mp z))]
          simpa [hw] using next y
theorem hF_language : ∀ ds Q, F_language ds Q → ds.length = 2 ∧ mb_language { nx := fun _ => Q .non, rt := Q } (dstart 3 ds) := by
  rintro ds Q ⟨r, sys, rfl, hs, hl, hn, hP⟩
  refine ⟨rfl, ?_⟩
  simp [mb_language, dstart]
  refine ⟨by omega, lc_filterMap tT (fun rows => tN (winnersOf r rows)) (fun _ => true) (fun rows hm Kk Kn h => ?_) _ (by rw [List.filter_eq_self.mpr (fun _ _ => rfl)]; exact hP)⟩
  obtain ⟨h1, h2, h3⟩ := hs rows hm
  simp at h ⊢
  exact ⟨r, rows, rfl, h1, hl, h2, h3, h⟩
theorem hF__law_language : ∀ ds Q, F__law_language ds Q → ds.length = 2 ∧ mb__law_language { nx := fun _ => Q .non, rt := Q } (dstart 3 ds) := by
  rintro ds Q ⟨r, sys, rfl, hs, hl, hn, hP⟩
  refine ⟨rfl, ?_⟩
  simp [mb__law_language, dstart]
  refine ⟨by omega, lc_filterMap tT (fun rows => tN (winnersOf r rows)) (fun _ => true) (fun rows hm Kk Kn h => ?_) _ (by rw [List.filter_eq_self.mpr (fun _ _ => rfl)]; exact hP)⟩
  obtain ⟨h1, h2, h3⟩ := hs rows hm
  simp at h ⊢
  exact ⟨r, rows, rfl, h1, hl, h2, h3, h⟩
theorem signs_len (w : Str) : (signsD w).length = w.length := by unfold signsD; simp [Str.length]
theorem atI_signs {w : Str} {k : Nat} (h : k < w.length) : ∃ c, atI w.cps.toList (k : Int) = some c ∧ w.cps.toList[k]? = some c ∧ D.str ⟨#[c]⟩ ∈ signsD w := by
  have hl : k < w.cps.toList.length := by simpa [Str.length] using h
  refine ⟨w.cps.toList[k], by rw [atI_nat, List.getElem?_eq_getElem hl], List.getElem?_eq_getElem hl, ?_⟩
  unfold signsD
  exact List.mem_map.mpr ⟨_, List.getElem_mem hl, rfl⟩
theorem hF__law_pick : ∀ ds Q, F__law_pick ds Q → ds.length = 2 ∧ mb__law_pick { nx := fun _ => Q .non, rt := Q } (dstart 2 ds) := by
  rintro ds Q ⟨xs, hds, h0, h1, hP⟩
  rcases hds with rfl | rfl | ⟨w, rfl, rfl, hw⟩
  · refine ⟨rfl, ?_⟩
    simp [mb__law_pick, dstart]
    refine draw_nat xs.length rfl h0 (by omega) fun k hk => ?_
    simp [atI_nat, hk]
    exact hP _ (List.getElem_mem hk)
  · refine ⟨rfl, ?_⟩
    simp [mb__law_pick, dstart]
    refine draw_nat xs.length rfl h0 (by omega) fun k hk => ?_
    simp [atI_nat, hk]
    exact hP _ (List.getElem_mem hk)
  · refine ⟨rfl, ?_⟩
    rw [signs_len] at h0 h1
    simp [mb__law_pick, dstart]
    refine ⟨hw, draw_nat w.length rfl h0 (by omega) fun k hk => ?_⟩
    obtain ⟨c, e1, _, e2⟩ := atI_signs hk
    simp only [e1]
    exact ⟨hw, c, rfl, hP _ e2⟩
theorem hF__law_marks : ∀ ds Q, F__law_marks ds Q → ds.length = 2 ∧ mb__law_marks { nx := fun _ => Q .non, rt := Q } (dstart 3 ds) := by
  rintro ds Q ⟨top, rfl, ht, hP⟩
  refine ⟨rfl, ?_⟩
  have hm : ∀ v : Nat, Q (.int (min (top : Int) (v : Int))) := fun v => by
    have e : dN (min top v) = .int (min (top : Int) (v : Int)) := congrArg D.int (by omega)
    rw [← e]
    exact hP (min top v) (Nat.min_le_left _ _)
  simp [mb__law_marks, dstart]
  refine draw_nat 6 rfl (by omega) (by omega) fun t ht' => ?_
  by_cases h4 : (t : Int) < 4
  · simp [h4]
    refine draw_nat 3 rfl (by omega) (by omega) fun v hv => ?_
    simpa using hm v
  · simp [h4]
    by_cases h5 : (t : Int) = 4
    · simp [h5]
      refine draw_nat 9 rfl (by omega) (by omega) fun v hv => ?_
      simpa using hm v
    · simp [h5]
      refine draw_nat (top + 1) (by simp) (by omega) (by omega) fun v hv => hP v (by omega)
theorem hF__law_profile : ∀ ds Q, F__law_profile ds Q → ds.length = 3 ∧ mb__law_profile { nx := fun _ => Q .non, rt := Q } (dstart 4 ds) := by
  rintro ds Q ⟨n, top, rfl, hn, ht, hP⟩
  refine ⟨rfl, ?_⟩
  simp [mb__law_profile, dstart, intsD_length]
  refine ⟨by omega, by omega, lc_all D.int (mark top) (fun d hd Kk Kn hx => ?_) fun xs hl ho => ?_⟩
  · simp
    exact ⟨top, rfl, ht, fun v hv => hx _ ⟨v, rfl, hv⟩⟩
  · simpa using hP xs ⟨by simpa [intsD_length] using hl, ho⟩
theorem noLst_row (c : List Int) : noLst (.tup (c.map D.int)) = true := by
  simp only [noLst]
  induction c with
  | nil => rfl
  | cons x c ih => rw [List.map_cons]; simp only [noLsts, ih, Bool.and_true]; rfl
theorem hF__law_tableau : ∀ ds Q, F__law_tableau ds Q → ds.length = 4 ∧ mb__law_tableau { nx := fun _ => Q .non, rt := Q } (dstart 6 ds) := by
  rintro ds Q ⟨n, most, top, rfl, hn, hm0, hm, ht, hP⟩
  refine ⟨rfl, ?_⟩
  simp [mb__law_tableau, dstart]
  refine draw_nat most rfl hm0 (by omega) fun z hz => ?_
  have e1 : (1 + (z : Int)) = ((z + 1 : Nat) : Int) := by omega
  simp only [e1, Int.toNat_natCast]
  refine ⟨by omega, by omega, loop_ind (fun ds env => ∃ (rows : List (List Int)) (x : Option Sl), rows.length + ds.length = z + 1 ∧ (∀ c ∈ rows, Prof n top c) ∧ env = [some (.val .pool), some (.val (dN n)), some (.val (dN most)), some (.val (dN top)), some (.own (rows.map tI)), x]) ?_ ?_ _ _ ⟨[], _, by simp [intsD_length], by simp, rfl⟩⟩
  · rintro env ⟨rows, x, hl, hc, rfl⟩
    simp at hl ⊢
    exact hP rows ⟨fun e => by rw [e] at hl; simp at hl, by omega, hc⟩
  · rintro d ds Kk env hK ⟨rows, x, hl, hc, rfl⟩
    have hlen : rows.length < 16777216 := by simp at hl; omega
    have next : ∀ c, Prof n top c → Kk [some (.val .pool), some (.val (dN n)), some (.val (dN most)), some (.val (dN top)), some (.own (rows.map tI ++ [tI c])), some (.val d)] := fun c hpc => by
      refine hK _ ⟨rows ++ [c], some (.val d), by simp at hl ⊢; omega, fun c' h => ?_, by simp⟩
      rcases List.mem_append.mp h with h | h
      · exact hc c' h
      · rw [List.mem_singleton.mp h]; exact hpc
    have prof : F__law_profile [.pool, dN n, dN top] fun d1 => rows.length < 16777216 ∧ Kk [some (.val .pool), some (.val (dN n)), some (.val (dN most)), some (.val (dN top)), some (.own (rows.map tI ++ [d1])), some (.val d)] :=
      ⟨n, top, rfl, hn, ht, fun c hpc => ⟨hlen, next c hpc⟩⟩
    simp
    by_cases h0 : 0 < rows.length
    · rw [if_pos h0]
      refine draw_nat 5 rfl (by omega) (by omega) fun y hy => ?_
      by_cases hy0 : y = 0
      · simp [hy0]
        refine ⟨rows.map tI, .inl rfl, by simpa using h0, by simp at hl ⊢; omega, fun d1 hd1 => ?_⟩
        obtain ⟨c, hcm, rfl⟩ := List.mem_map.mp hd1
        exact ⟨noLst_row c, hlen, next c (hc c hcm)⟩
      · simp [hy0]
        exact prof
    · rw [if_neg h0]
      exact prof
theorem hF__law_system : ∀ ds Q, F__law_system ds Q → ds.length = 5 ∧ mb__law_system { nx := fun _ => Q .non, rt := Q } (dstart 6 ds) := by
  rintro ds Q ⟨n, tabs, most, top, rfl, hn, ht0, ht1, hm0, hm, ht, hP⟩
  refine ⟨rfl, ?_⟩
  simp [mb__law_system, dstart]
  refine draw_nat tabs rfl ht0 (by omega) fun z hz => ?_
  have e1 : (1 + (z : Int)) = ((z + 1 : Nat) : Int) := by omega
  simp only [e1, Int.toNat_natCast]
  simp only [intsD_length]
  refine ⟨by omega, by omega, by omega, lc_all tT (Tabl n most top) (fun d hd Kk Kn hx => ?_) fun xs hl ho => ?_⟩
  · simp
    exact ⟨n, most, top, rfl, hn, hm0, hm, ht, hx⟩
  · rw [intsD_length] at hl
    simpa using hP xs (fun e => by rw [e] at hl; simp at hl) (by omega) ho
end DL

set_option Elab.async false
set_option linter.all false
set_option autoImplicit false
set_option maxRecDepth 100000
/-! DC8: the comparisons of a tableau's candidate. -/
namespace DL
open PySem (Str)
def sg (x : Int) : Int := if 0 < x then 1 else if x < 0 then -1 else 0
def cmpd : List Int → List Int → List Int
  | a :: w, b :: l => sg (b - a) :: cmpd w l
  | _, _ => []
theorem cmpd_length : ∀ w l : List Int, w.length = l.length → (cmpd w l).length = w.length
  | [], [], _ => rfl
  | _ :: w, _ :: l, h => by simp [cmpd, cmpd_length w l (by simpa using h)]
  | [], _ :: _, h => by simp at h
  | _ :: _, [], h => by simp at h
theorem cmpd_at : ∀ (w l : List Int), w.length = l.length → ∀ x, x < w.length → at0 (cmpd w l) x = sg (at0 l x - at0 w x)
  | [], _, _, x, hx => by simp at hx
  | _ :: _, [], h, _, _ => by simp at h
  | a :: w, b :: l, h, 0, _ => rfl
  | a :: w, b :: l, h, x + 1, hx => cmpd_at w l (by simpa using h) x (by simpa using hx)
/-- a ranking meets the comparison of a winner with a loser when the loser is not before it -/
theorem meets_cmpd (w l : List Int) (hl : w.length = l.length) : ∀ r : List Nat, (∀ x ∈ r, x < w.length) → meets r (cmpd w l) = !lexLt (key r l) (key r w)
  | [], _ => rfl
  | x :: r, hr => by
    have hx := cmpd_at w l hl x (hr x (List.mem_cons_self ..))
    have ih := meets_cmpd w l hl r fun y hy => hr y (List.mem_cons_of_mem _ hy)
    have e : lexLt (key (x :: r) l) (key (x :: r) w) = if at0 l x = at0 w x then lexLt (key r l) (key r w) else decide (at0 l x < at0 w x) := rfl
    rw [e]
    simp only [meets, hx, ih]
    by_cases h1 : at0 l x = at0 w x
    · have hs : sg (at0 l x - at0 w x) = 0 := by unfold sg; rw [if_neg (by omega), if_neg (by omega)]
      rw [hs]; simp [h1]
    · by_cases h2 : at0 l x < at0 w x
      · have hs : sg (at0 l x - at0 w x) = -1 := by unfold sg; rw [if_neg (by omega), if_pos (by omega)]
        rw [hs]; simp [h1, h2]
      · have hs : sg (at0 l x - at0 w x) = 1 := by unfold sg; rw [if_pos (by omega)]
        rw [hs, if_neg h1, decide_eq_false h2]; simp
def rowsOf (rows : List (List Int)) (k : Nat) : List (List Int) := ((List.range rows.length).filter fun j => !decide (j = k)).map fun j => cmpd (rowAt rows k) (rowAt rows j)
theorem rowsOf_length (rows : List (List Int)) (k : Nat) : (rowsOf rows k).length ≤ rows.length := by
  have := List.length_filter_le (fun j => !decide (j = k)) (List.range rows.length); rw [List.length_range] at this
  unfold rowsOf; rw [List.length_map]; exact this
theorem fu_none (r : List Nat) : ∀ (cs : List (List Int)) (k : Nat), (∃ j : Nat, fu r k cs = dN j) ∧ cs.all (meets r) = false ∨ fu r k cs = .non ∧ cs.all (meets r) = true
  | [], _ => .inr ⟨rfl, rfl⟩
  | c :: cs, k => by
    simp only [fu, List.all_cons]
    by_cases h : meets r c = true
    · simp only [h, if_true, Bool.true_and]; exact fu_none r cs (k + 1)
    · simp only [h, if_false, Bool.false_and]; exact .inl ⟨⟨k, by simp⟩, by simp [h]⟩
theorem rows_win (r : List Nat) {n : Nat} (rows : List (List Int)) (hl : ∀ c ∈ rows, c.length = n) (hr : ∀ x ∈ r, x < n) (k : Nat) (hk : k < rows.length) : (rowsOf rows k).all (meets r) = win r rows k := by
  have hkl := hl _ (rowAt_mem rows k hk)
  rw [Bool.eq_iff_iff, List.all_eq_true]
  unfold win
  rw [List.all_eq_true]
  have one : ∀ j, j < rows.length → meets r (cmpd (rowAt rows k) (rowAt rows j)) = !lexLt (key r (rowAt rows j)) (key r (rowAt rows k)) := fun j hj =>
    meets_cmpd _ _ (by rw [hkl, hl _ (rowAt_mem rows j hj)]) r (by rw [hkl]; exact hr)
  constructor
  · intro h o ho
    obtain ⟨j, hj, e⟩ := List.mem_iff_getElem.mp ho
    have ej : rowAt rows j = o := by simp [rowAt, List.getD_eq_getElem?_getD, List.getElem?_eq_getElem hj, e]
    by_cases hjk : j = k
    · subst hjk; rw [← ej, lexLt_irrefl]; rfl
    · rw [← ej, ← one j hj]
      exact h _ (List.mem_map.mpr ⟨j, List.mem_filter.mpr ⟨List.mem_range.mpr hj, by simp [hjk]⟩, rfl⟩)
  · intro h c hc
    obtain ⟨j, hj, rfl⟩ := List.mem_map.mp hc
    have hj := List.mem_range.mp (List.mem_filter.mp hj).1
    rw [one j hj]
    exact h _ (rowAt_mem rows j hj)
theorem rowsOf_mem {n : Nat} {rows : List (List Int)} (hl : ∀ c ∈ rows, c.length = n) {k : Nat} (hk : k < rows.length) : ∀ c ∈ rowsOf rows k, c.length = n := fun c hc => by
  obtain ⟨j, hj, rfl⟩ := List.mem_map.mp hc
  have hj := List.mem_range.mp (List.mem_filter.mp hj).1
  rw [cmpd_length _ _ (by rw [hl _ (rowAt_mem rows k hk), hl _ (rowAt_mem rows j hj)]), hl _ (rowAt_mem rows k hk)]
def F_sign_of : FD := fun ds P => ∃ x : Int, ds = [.int x] ∧ P (.int (sg x))
def F_compared : FD := fun ds P => ∃ w l : List Int, ds = [tI w, tI l] ∧ w.length = l.length ∧ w.length ≤ 1000 ∧ P (tI (cmpd w l))
abbrev F__law_compared := F_compared
def F_others_of : FD := fun ds P => ∃ (rows : List (List Int)) (k : Nat), ds = [tT rows, dN k] ∧ rows.length ≤ 1000 ∧ P (.lst (((List.range rows.length).filter fun j => !decide (j = k)).map dN))
def F_rows_of : FD := fun ds P => ∃ (n : Nat) (rows : List (List Int)) (k : Nat), ds = [tT rows, dN k] ∧ n ≤ 1000 ∧ rows.length ≤ 1000 ∧ (∀ c ∈ rows, c.length = n) ∧ k < rows.length ∧ P (lI (rowsOf rows k))
abbrev F__law_rows_of := F_rows_of
def mb_sign_of : MS :=
  (sSeq (sIf (tVal (eBin oGt (eVar 0) (eC (.int 0)))) (sRet (eC (.int 1))) sNop)
    (sRet (eIf (tVal (eBin oLt (eVar 0) (eC (.int 0)))) (eUn oNeg (eC (.int 1))) (eC (.int 0)))))

def mb_compared : MS :=
  (sRet (eTupleG (iZip (eVar 0) (eVar 1)) (DL.gTup (DL.gCons (DL.gName 2) (DL.gCons (DL.gName 3) DL.gNil))) tNone (eCall F_sign_of (aCons (eBin oSub (eVar 3) (eVar 2)) aNil)) [2, 3]))

def mb_others_of : MS :=
  (sRet (eFr (fLc (iRange1 (eCall fLen (aCons (eVar 0) aNil))) (DL.gName 2) (tVal (eBin oNe (eVar 2) (eVar 1))) (eVar 2) [2])))

def mb_rows_of : MS :=
  (sRet (eFr (fLc (iSeq (eCall F_others_of (aCons (eVar 0) (aCons (eVar 1) aNil)))) (DL.gName 2) tNone (eCall F_compared (aCons (eBin oIx (eVar 0) (eVar 1)) (aCons (eBin oIx (eVar 0) (eVar 2)) aNil))) [2])))

def mb__law_compared : MS :=
  (sSeq (sSetOwn 2 (fLst aNil))
    (sSeq (sFor (iRange1 (eCall fLen (aCons (eVar 0) aNil))) (DL.gName 3)
    (sAppend 2 (eIf (tVal (eBin oGt (eBin oIx (eVar 1) (eVar 3)) (eBin oIx (eVar 0) (eVar 3)))) (eC (.int 1)) (eIf (tVal (eBin oLt (eBin oIx (eVar 1) (eVar 3)) (eBin oIx (eVar 0) (eVar 3)))) (eUn oNeg (eC (.int 1))) (eC (.int 0))))))
    (sFrz 2 (sRet (eCall fTuple (aCons (eVar 2) aNil))))))

def mb__law_rows_of : MS :=
  (sRet (eFr (fLc (iRange1 (eCall fLen (aCons (eVar 0) aNil))) (DL.gName 2) (tVal (eBin oNe (eVar 2) (eVar 1))) (eCall F__law_compared (aCons (eBin oIx (eVar 0) (eVar 1)) (aCons (eBin oIx (eVar 0) (eVar 2)) aNil))) [2])))

theorem hF_sign_of : ∀ ds Q, F_sign_of ds Q → ds.length = 1 ∧ mb_sign_of { nx := fun _ => Q .non, rt := Q } (dstart 1 ds) := by
  rintro ds Q ⟨x, rfl, hP⟩
  refine ⟨rfl, ?_⟩
  unfold sg at hP
  simp [mb_sign_of, dstart]
  by_cases h1 : 0 < x
  · simpa [h1] using hP
  · by_cases h2 : x < 0
    · simpa [h1, h2] using hP
    · simpa [h1, h2] using hP
theorem hF_compared : ∀ ds Q, F_compared ds Q → ds.length = 2 ∧ mb_compared { nx := fun _ => Q .non, rt := Q } (dstart 4 ds) := by
  rintro ds Q ⟨w, l, rfl, hl, hn, hP⟩
  refine ⟨rfl, ?_⟩
  have zl : (zipT (w.map D.int) (l.map D.int)).length = w.length := by
    clear hP hn
    induction w generalizing l with
    | nil => rfl
    | cons a w ih => cases l with
      | nil => simp at hl
      | cons b l => simp [zipT, ih l (by simpa using hl)]
  simp [mb_compared, dstart, zl]
  refine ⟨by omega, lc_ind (fun rest acc => ∃ a b done : List Int, rest = zipT (a.map D.int) (b.map D.int) ∧ acc = done.map D.int ∧ a.length = b.length ∧ done ++ cmpd a b = cmpd w l) ?_ ?_ _ _ ⟨w, l, [], rfl, rfl, hl, rfl⟩⟩
  · rintro acc ⟨a, b, done, h, rfl, hab, e⟩
    cases a with
    | nil =>
      have : cmpd [] b = [] := by cases b <;> rfl
      rw [this, List.append_nil] at e
      rw [e]
      exact hP
    | cons a as => cases b with
      | nil => simp at hab
      | cons b bs => cases h
  · rintro d rest Kk acc hK ⟨a, b, done, h, rfl, hab, e⟩
    cases a with
    | nil => cases b <;> cases h
    | cons a as => cases b with
      | nil => simp at hab
      | cons b bs =>
        cases h
        simp
        refine ⟨b - a, rfl, ?_⟩
        refine hK _ ⟨as, bs, done ++ [sg (b - a)], rfl, by simp, by simpa using hab, ?_⟩
        rw [← e]; simp [cmpd]
theorem hF_others_of : ∀ ds Q, F_others_of ds Q → ds.length = 2 ∧ mb_others_of { nx := fun _ => Q .non, rt := Q } (dstart 3 ds) := by
  rintro ds Q ⟨rows, k, rfl, hn, hP⟩
  refine ⟨rfl, ?_⟩
  simp [mb_others_of, dstart]
  have er : intsD 0 rows.length = (List.range rows.length).map dN := ints0 _
  rw [er]
  simp
  refine ⟨by omega, by omega, lc_filter dN (fun j => !decide (j = k)) (fun j hj Kk Kn h => ?_) _ (by simpa using hP)⟩
  by_cases hjk : j = k
  · simp [hjk] at h ⊢; exact h
  · have : ¬ (j : Int) = (k : Int) := by omega
    simp [hjk, this] at h ⊢; exact h
theorem hF__law_compared : ∀ ds Q, F__law_compared ds Q → ds.length = 2 ∧ mb__law_compared { nx := fun _ => Q .non, rt := Q } (dstart 4 ds) := by
  rintro ds Q ⟨w, l, rfl, hl, hn, hP⟩
  refine ⟨rfl, ?_⟩
  simp [mb__law_compared, dstart]
  refine ⟨by omega, loop_ind (fun ds env => ∃ (k m : Nat) (x : Option Sl), ds = intsD (k : Int) m ∧ k + m = w.length ∧ env = [some (.val (tI w)), some (.val (tI l)), some (.own (((cmpd w l).take k).map D.int)), x]) ?_ ?_ _ _ ⟨0, w.length, _, rfl, by omega, rfl⟩⟩
  · rintro env ⟨k, m, x, h, hk, rfl⟩
    cases m with
    | zero =>
      have e : (cmpd w l).take k = cmpd w l := List.take_of_length_le (by rw [cmpd_length _ _ hl]; omega)
      rw [e]
      simpa using hP
    | succ m => cases h
  · rintro d ds Kk env hK ⟨k, m, x, h, hk, rfl⟩
    cases m with
    | zero => cases h
    | succ m =>
      cases h
      have hk' : k < w.length := by omega
      have e1 := atI_tI (c := w) (x := k) hk'
      have e2 := atI_tI (c := l) (x := k) (by omega)
      have hlen : ((cmpd w l).take k).length ≤ k := by rw [List.length_take]; omega
      have next : ∀ v, v = sg (at0 l k - at0 w k) → Kk [some (.val (tI w)), some (.val (tI l)), some (.own (((cmpd w l).take k).map D.int ++ [.int v])), some (.val (.int (k : Int)))] := fun v hv => by
        refine hK _ ⟨k + 1, m, some (.val (.int (k : Int))), rfl, by omega, ?_⟩
        have hc : k < (cmpd w l).length := by rw [cmpd_length _ _ hl]; exact hk'
        have ha : (cmpd w l)[k] = v := by
          have := cmpd_at w l hl k hk'
          rw [hv, ← this]; simp [at0, List.getD_eq_getElem?_getD, hc]
        have et : (cmpd w l).take (k + 1) = (cmpd w l).take k ++ [v] := by rw [← ha, List.take_append_getElem hc]
        rw [et]; simp
      simp [e1, e2]
      unfold sg at next
      by_cases h1 : at0 w k < at0 l k
      · simp [h1]
        refine ⟨by omega, by simpa using next 1 (by rw [if_pos (by omega)])⟩
      · by_cases h2 : at0 l k < at0 w k
        · simp [h1, h2]
          refine ⟨by omega, by simpa using next (-1) (by rw [if_neg (by omega), if_pos (by omega)])⟩
        · simp [h1, h2]
          refine ⟨by omega, by simpa using next 0 (by rw [if_neg (by omega), if_neg (by omega)])⟩
theorem hF_rows_of : ∀ ds Q, F_rows_of ds Q → ds.length = 2 ∧ mb_rows_of { nx := fun _ => Q .non, rt := Q } (dstart 3 ds) := by
  rintro ds Q ⟨n, rows, k, rfl, hn, hr, hl, hk, hP⟩
  refine ⟨rfl, ?_⟩
  have hfl := List.length_filter_le (fun j => !decide (j = k)) (List.range rows.length)
  rw [List.length_range] at hfl
  have hx : ∀ k, k < rows.length → atI (rows.map tI) (k : Int) = some (tI (rowAt rows k)) := fun k hk' => by
    rw [atI_lI hk']; simp [rowAt, List.getD_eq_getElem?_getD, hk']
  simp [mb_rows_of, dstart]
  refine ⟨rows, k, rfl, by omega, ?_⟩
  simp
  refine ⟨by omega, lc_filterMap dN (fun j => tI (cmpd (rowAt rows k) (rowAt rows j))) (fun _ => true) (fun j hj Kk Kn h => ?_) _ ?_⟩
  rotate_left
  · rw [List.filter_eq_self.mpr (fun _ _ => rfl)]
    simp only [rowsOf, lI, List.map_map, Function.comp_def] at hP
    exact hP
  have hj := List.mem_range.mp (List.mem_filter.mp hj).1
  have lk := hl _ (rowAt_mem rows k hk)
  have lj := hl _ (rowAt_mem rows j hj)
  simp [hx k hk, hx j hj] at h ⊢
  exact ⟨_, _, rfl, by omega, by omega, h⟩
theorem hF__law_rows_of : ∀ ds Q, F__law_rows_of ds Q → ds.length = 2 ∧ mb__law_rows_of { nx := fun _ => Q .non, rt := Q } (dstart 3 ds) := by
  rintro ds Q ⟨n, rows, k, rfl, hn, hr, hl, hk, hP⟩
  refine ⟨rfl, ?_⟩
  have hx : ∀ k, k < rows.length → atI (rows.map tI) (k : Int) = some (tI (rowAt rows k)) := fun k hk' => by
    rw [atI_lI hk']; simp [rowAt, List.getD_eq_getElem?_getD, hk']
  simp [mb__law_rows_of, dstart]
  have er : intsD 0 rows.length = (List.range rows.length).map dN := ints0 _
  rw [er]
  simp
  refine ⟨by omega, by omega, lc_filterMap dN (fun j => tI (cmpd (rowAt rows k) (rowAt rows j))) (fun j => !decide (j = k)) (fun j hj Kk Kn h => ?_) _ ?_⟩
  rotate_left
  · simp only [rowsOf, lI, List.map_map, Function.comp_def] at hP
    exact hP
  have hj := List.mem_range.mp hj
  have lk := hl _ (rowAt_mem rows k hk)
  have lj := hl _ (rowAt_mem rows j hj)
  by_cases hjk : j = k
  · simp [hjk] at h ⊢; exact h
  · have : ¬ (j : Int) = (k : Int) := by omega
    simp [hjk, this, hx k hk, hx j hj] at h ⊢
    exact ⟨_, _, rfl, by omega, by omega, h⟩
end DL

set_option Elab.async false
set_option linter.all false
set_option autoImplicit false
set_option maxRecDepth 100000
/-! DC5: is it a row of ints. -/
namespace DL
open PySem (Str)
/-- all(..), by a test of each -/
theorem all_ind {g : MG} {t : MT} {e : ME} {b : DEnv} {P : Bool → Prop} (p : D → Bool) {xs : List D}
    (h1 : ∀ d, d ∈ xs → ∀ L : Prop, (if p d = true then L else P false) → genTurn g t e b (yAll P) d L) (h : P (xs.all p)) : allLoop g t e b P xs := by
  induction xs with
  | nil => exact h
  | cons d ds ih =>
    refine h1 d (List.mem_cons_self ..) _ ?_
    rw [List.all_cons] at h
    by_cases hp : p d = true
    · rw [if_pos hp]
      exact ih (fun d hd => h1 d (List.mem_cons_of_mem _ hd)) (by simpa [hp] using h)
    · rw [if_neg hp]
      simpa [hp] using h
/-- isinstance tells of it -/
def okD : D → Bool
  | .pool => false
  | .frz _ => false
  | .rnk _ => false
  | .gd _ _ => false
  | _ => true
def okE : D → Prop
  | .tup xs => xs.length ≤ 1000 ∧ ∀ x ∈ xs, okD x = true
  | d => okD d = true
def isInt : D → Bool
  | .int _ => true
  | _ => false
def isIn (lo hi : Int) : D → Bool
  | .int i => decide (lo ≤ i) && decide (i ≤ hi)
  | _ => false
def isInts (n : Nat) (lo hi : Int) : D → Bool
  | .tup xs => decide (xs.length = n) && xs.all (isIn lo hi)
  | _ => false
def F_is_integer : FD := fun ds P => ∃ d, ds = [d] ∧ okD d = true ∧ P (.bl (isInt d))
abbrev F__law_is_integer := F_is_integer
def F_is_within : FD := fun ds P => ∃ d lo hi, ds = [d, .int lo, .int hi] ∧ okD d = true ∧ P (.bl (isIn lo hi d))
def F_is_integers : FD := fun ds P => ∃ (d : D) (n : Nat) (lo hi : Int), ds = [d, dN n, .int lo, .int hi] ∧ okE d ∧ P (.bl (isInts n lo hi d))
def F_is_comparison : FD := fun ds P => ∃ (n : Nat) (d : D), ds = [dN n, d] ∧ okE d ∧ P (.bl (isInts n (-1) 1 d))
abbrev F__law_is_comparison := F_is_comparison
def F_opposite : FD := fun ds P => ∃ c : List Int, ds = [tI c] ∧ c.length ≤ 1000 ∧ P (tI (c.map fun x => -x))
def oddV : List D := [.non, .bl true, .bl false, .int 0, .int 1, .int (-1), .str "", .str "ranking", .tup [], .lst [], .dct [] [], .tup [.int 0], .tup [.bl true], .tup [.tup []], .lst [.int 0, .int 1], .tup [.int 0, .int 0], .tup [.int 1, .int 0, .int 2], .tup [.str "ranking"], .tup [.str "ranking", .tup []], .tup [.str "clash", .tup []], .tup [.str "ranking", .tup [.int 0, .int 1], .int 2]]
def F__law_odd_values : FD := fun ds P => ds = [] ∧ P (.lst oddV)
def mb_is_integer : MS :=
  (sRet (eAnd (eUn (oIsA .int) (eVar 0)) (eNot (eUn (oIsA .bool) (eVar 0)))))

def mb_is_within : MS :=
  (sRet (eAnd (eCall F_is_integer (aCons (eVar 0) aNil)) (eChain oLe oLe (eVar 1) (eVar 0) (eVar 2))))

def mb_is_integers : MS :=
  (sSeq (sIf (DL.tOr (DL.tNot (tVal (eUn (oIsA .tuple) (eVar 0)))) (tVal (eBin oNe (eCall fLen (aCons (eVar 0) aNil)) (eVar 1)))) (sRet (eC (.bl false))) sNop)
    (sRet (eAllG (iSeq (eVar 0)) (DL.gName 4) tNone (eCall F_is_within (aCons (eVar 4) (aCons (eVar 2) (aCons (eVar 3) aNil)))) [4])))

def mb_is_comparison : MS :=
  (sRet (eCall F_is_integers (aCons (eVar 1) (aCons (eVar 0) (aCons (eUn oNeg (eC (.int 1))) (aCons (eC (.int 1)) aNil))))))

def mb_opposite : MS :=
  (sRet (eTupleG (iSeq (eVar 0)) (DL.gName 1) tNone (eUn oNeg (eVar 1)) [1]))

def mb__law_is_integer : MS :=
  (sRet (eAnd (eUn (oIsA .int) (eVar 0)) (eNot (eUn (oIsA .bool) (eVar 0)))))

def mb__law_is_comparison : MS :=
  (sSeq (sIf (DL.tOr (DL.tNot (tVal (eUn (oIsA .tuple) (eVar 1)))) (tVal (eBin oNe (eCall fLen (aCons (eVar 1) aNil)) (eVar 0)))) (sRet (eC (.bl false))) sNop)
    (sRet (eBin oEq (eCall fLen (aCons (eFr (fLc (iSeq (eVar 1)) (DL.gName 2) (DL.tOr (DL.tNot (tVal (eCall F__law_is_integer (aCons (eVar 2) aNil)))) (DL.tOr (tVal (eBin oLt (eVar 2) (eUn oNeg (eC (.int 1))))) (tVal (eBin oGt (eVar 2) (eC (.int 1)))))) (eVar 2) [2])) aNil)) (eC (.int 0)))))

def mb__law_odd_values : MS :=
  (sRet (eFr (fLst (aCons (eC .non) (aCons (eC (.bl true)) (aCons (eC (.bl false)) (aCons (eC (.int 0)) (aCons (eC (.int 1)) (aCons (eUn oNeg (eC (.int 1))) (aCons (eC (.str "")) (aCons (eC (.str "ranking")) (aCons (eTup aNil) (aCons (eFr (fLst aNil)) (aCons eDct (aCons (eTup (aCons (eC (.int 0)) aNil)) (aCons (eTup (aCons (eC (.bl true)) aNil)) (aCons (eTup (aCons (eTup aNil) aNil)) (aCons (eFr (fLst (aCons (eC (.int 0)) (aCons (eC (.int 1)) aNil)))) (aCons (eTup (aCons (eC (.int 0)) (aCons (eC (.int 0)) aNil))) (aCons (eTup (aCons (eC (.int 1)) (aCons (eC (.int 0)) (aCons (eC (.int 2)) aNil)))) (aCons (eTup (aCons (eC (.str "ranking")) aNil)) (aCons (eTup (aCons (eC (.str "ranking")) (aCons (eTup aNil) aNil))) (aCons (eTup (aCons (eC (.str "clash")) (aCons (eTup aNil) aNil))) (aCons (eTup (aCons (eC (.str "ranking")) (aCons (eTup (aCons (eC (.int 0)) (aCons (eC (.int 1)) aNil))) (aCons (eC (.int 2)) aNil)))) aNil))))))))))))))))))))))))

theorem hF_is_integer : ∀ ds Q, F_is_integer ds Q → ds.length = 1 ∧ mb_is_integer { nx := fun _ => Q .non, rt := Q } (dstart 1 ds) := by
  rintro ds Q ⟨d, rfl, hd, hP⟩
  refine ⟨rfl, ?_⟩
  cases d <;> simp [mb_is_integer, dstart, okD, isInt] at hd hP ⊢ <;> exact hP
theorem hF__law_is_integer : ∀ ds Q, F__law_is_integer ds Q → ds.length = 1 ∧ mb__law_is_integer { nx := fun _ => Q .non, rt := Q } (dstart 1 ds) := by
  rintro ds Q ⟨d, rfl, hd, hP⟩
  refine ⟨rfl, ?_⟩
  cases d <;> simp [mb__law_is_integer, dstart, okD, isInt] at hd hP ⊢ <;> exact hP
theorem hF_is_within : ∀ ds Q, F_is_within ds Q → ds.length = 3 ∧ mb_is_within { nx := fun _ => Q .non, rt := Q } (dstart 3 ds) := by
  rintro ds Q ⟨d, lo, hi, rfl, hd, hP⟩
  refine ⟨rfl, ?_⟩
  cases d with
  | int i =>
    simp [mb_is_within, dstart]
    refine ⟨_, rfl, rfl, ?_⟩
    simp [isInt]
    by_cases h1 : lo ≤ i
    · by_cases h2 : i ≤ hi <;> simpa [isIn, h1, h2] using hP
    · simpa [isIn, h1] using hP
  | _ =>
    simp [mb_is_within, dstart]
    first
    | (refine ⟨_, rfl, hd, ?_⟩
       simpa [isInt, isIn] using hP)
theorem hF_is_integers : ∀ ds Q, F_is_integers ds Q → ds.length = 4 ∧ mb_is_integers { nx := fun _ => Q .non, rt := Q } (dstart 5 ds) := by
  rintro ds Q ⟨d, n, lo, hi, rfl, hd, hP⟩
  refine ⟨rfl, ?_⟩
  cases d with
  | tup xs =>
    obtain ⟨h1, h2⟩ := hd
    simp [mb_is_integers, dstart]
    by_cases hn : (xs.length : Int) = (n : Int)
    · rw [if_pos hn]
      have hn' : xs.length = n := by omega
      refine all_ind (isIn lo hi) (fun d hdm L hL => ?_) (by simpa [hn', isInts] using hP)
      simp [genTurn, yAll]
      refine ⟨d, lo, hi, rfl, h2 d hdm, ?_⟩
      simpa using hL
    · rw [if_neg hn]
      have hn' : ¬ xs.length = n := by omega
      simpa [hn', isInts] using hP
  | _ => first
    | (simp [okE, okD] at hd; done)
    | (simpa [mb_is_integers, dstart, isInts] using hP)
theorem hF_is_comparison : ∀ ds Q, F_is_comparison ds Q → ds.length = 2 ∧ mb_is_comparison { nx := fun _ => Q .non, rt := Q } (dstart 2 ds) := by
  rintro ds Q ⟨n, d, rfl, hd, hP⟩
  refine ⟨rfl, ?_⟩
  simp [mb_is_comparison, dstart]
  exact ⟨d, n, -1, 1, rfl, hd, hP⟩
theorem hF__law_is_comparison : ∀ ds Q, F__law_is_comparison ds Q → ds.length = 2 ∧ mb__law_is_comparison { nx := fun _ => Q .non, rt := Q } (dstart 3 ds) := by
  rintro ds Q ⟨n, d, rfl, hd, hP⟩
  refine ⟨rfl, ?_⟩
  cases d with
  | tup xs =>
    obtain ⟨h1, h2⟩ := hd
    simp [mb__law_is_comparison, dstart]
    by_cases hn : (xs.length : Int) = (n : Int)
    · rw [if_pos hn]
      have hn' : xs.length = n := by omega
      have e0 : xs = xs.map id := by simp
      refine ⟨by omega, ?_⟩
      rw [e0]
      refine lc_filter id (fun d => !isIn (-1) 1 d) (fun d hdm Kk Kn hL => ?_) _ ?_
      · simp
        refine ⟨d, rfl, h2 d hdm, ?_⟩
        have ho := h2 d hdm
        cases d with
        | int i =>
          simp [isInt, isIn] at hL ⊢
          by_cases a1 : i < -1
          · have : ¬ (-1 ≤ i) := by omega
            simp [a1, this] at hL ⊢
            exact hL
          · by_cases a2 : 1 < i
            · have : ¬ (i ≤ 1) := by omega
              have a3 : -1 ≤ i := by omega
              simp [a1, a2, a3, this] at hL ⊢
              exact hL
            · have a4 : i ≤ 1 := by omega
              have a3 : -1 ≤ i := by omega
              simp [a1, a2, a3, a4] at hL ⊢
              exact hL
        | _ => simpa [isInt, isIn] using hL
      · have e : (((xs.filter fun d => !isIn (-1) 1 d).length : Int) == 0) = xs.all (isIn (-1) 1) := by
          rw [Bool.eq_iff_iff]; simp
        simp only [List.nil_append, List.map_id, e]
        simpa [hn', isInts] using hP
    · rw [if_neg hn]
      have hn' : ¬ xs.length = n := by omega
      simpa [hn', isInts] using hP
  | _ => first
    | (simp [okE, okD] at hd; done)
    | (simpa [mb__law_is_comparison, dstart, isInts] using hP)
theorem hF_opposite : ∀ ds Q, F_opposite ds Q → ds.length = 1 ∧ mb_opposite { nx := fun _ => Q .non, rt := Q } (dstart 2 ds) := by
  rintro ds Q ⟨c, rfl, hn, hP⟩
  refine ⟨rfl, ?_⟩
  simp [mb_opposite, dstart]
  refine ⟨by omega, lc_map (fun d => match d with | .int i => .int (-i) | d => d) (fun d hd Kk Kn h => ?_) _ ?_⟩
  · obtain ⟨x, _, rfl⟩ := List.mem_map.mp hd
    simpa using h
  · simpa [Function.comp_def, tI] using hP
theorem hF__law_odd_values : ∀ ds Q, F__law_odd_values ds Q → ds.length = 0 ∧ mb__law_odd_values { nx := fun _ => Q .non, rt := Q } (dstart 0 ds) := by
  rintro ds Q ⟨rfl, hP⟩
  refine ⟨rfl, ?_⟩
  simp [mb__law_odd_values, dstart]
  exact hP
end DL

set_option Elab.async false
set_option linter.all false
set_option autoImplicit false
set_option maxRecDepth 100000
/-! DC82: charts. -/
namespace DL
open PySem (Str)
mutual
/-- no pool within; no long tuple -/
def deep : D → Bool
  | .pool => false
  | .frz _ => false
  | .rnk _ => false
  | .gd _ _ => false
  | .tup xs => decide (xs.length ≤ 1000) && deeps xs
  | .lst xs => deeps xs
  | _ => true
def deeps : List D → Bool
  | [] => true
  | x :: xs => deep x && deeps xs
end
theorem deeps_mem : ∀ {xs : List D}, deeps xs = true → ∀ x ∈ xs, deep x = true
  | [], _, x, hx => by simp at hx
  | y :: ys, h, x, hx => by
    simp only [deeps, Bool.and_eq_true] at h
    rcases List.mem_cons.mp hx with rfl | hx
    · exact h.1
    · exact deeps_mem h.2 x hx
theorem deeps_of : ∀ {xs : List D}, (∀ x ∈ xs, deep x = true) → deeps xs = true
  | [], _ => rfl
  | y :: ys, h => by simp only [deeps, Bool.and_eq_true]; exact ⟨h y (List.mem_cons_self ..), deeps_of fun x hx => h x (List.mem_cons_of_mem _ hx)⟩
theorem deep_ok {d : D} (h : deep d = true) : okD d = true := by cases d <;> first | rfl | (simp [deep] at h)
theorem deep_tup {xs : List D} (h : deep (.tup xs) = true) : xs.length ≤ 1000 ∧ ∀ x ∈ xs, deep x = true := by
  simp only [deep, Bool.and_eq_true, decide_eq_true_eq] at h
  exact ⟨h.1, deeps_mem h.2⟩
theorem tup_deep {xs : List D} (h : xs.length ≤ 1000) (h2 : ∀ x ∈ xs, deep x = true) : deep (.tup xs) = true := by
  simp only [deep, Bool.and_eq_true, decide_eq_true_eq]
  exact ⟨h, deeps_of h2⟩
theorem deep_okE {d : D} (h : deep d = true) : okE d := by
  cases d with
  | tup xs => exact ⟨(deep_tup h).1, fun x hx => deep_ok ((deep_tup h).2 x hx)⟩
  | _ => exact deep_ok h
def neI : D → D → Bool
  | .int i, .int j => decide (¬ i = j)
  | _, _ => true
def isMove (n f : Nat) : D → Bool
  | .tup [a, b, c] => isIn 0 ((f : Int) - 1) a && (isIn 0 ((f : Int) - 1) b && (neI a b && isInts n 0 1000000 c))
  | _ => false
def isChart (n : Nat) : D → Bool
  | .tup [.tup fs, .tup ms] => (decide (1 ≤ fs.length) && decide (fs.length ≤ 8)) && (fs.all (isInts n 0 1000000) && (decide (ms.length ≤ 20) && ms.all (isMove n fs.length)))
  | _ => false
theorem isMove_len (n f : Nat) (xs : List D) (h : xs.length ≠ 3) : isMove n f (.tup xs) = false := by
  match xs, h with
  | [], _ => rfl
  | [_], _ => rfl
  | [_, _], _ => rfl
  | [_, _, _], h => exact absurd rfl h
  | _ :: _ :: _ :: _ :: _, _ => rfl
def F_is_profile : FD := fun ds P => ∃ (n : Nat) (d : D), ds = [dN n, d] ∧ okE d ∧ P (.bl (isInts n 0 1000000 d))
abbrev F__law_is_profile := F_is_profile
def F_is_move : FD := fun ds P => ∃ (n f : Nat) (d : D), ds = [dN n, dN f, d] ∧ deep d = true ∧ P (.bl (isMove n f d))
def F_is_chart : FD := fun ds P => ∃ (n : Nat) (d : D), ds = [dN n, d] ∧ deep d = true ∧ P (.bl (isChart n d))
abbrev F__law_is_chart := F_is_chart
def F__law_plus : FD := fun ds P => ∃ a b : List Int, ds = [tI a, tI b] ∧ a.length = b.length ∧ a.length ≤ 1000 ∧ P (tI (List.zipWith (· + ·) a b))
def mb_is_profile : MS :=
  (sRet (eCall F_is_integers (aCons (eVar 1) (aCons (eVar 0) (aCons (eC (.int 0)) (aCons (eC (.int 1000000)) aNil))))))

def mb__law_is_profile : MS :=
  (sSeq (sIf (DL.tOr (DL.tNot (tVal (eUn (oIsA .tuple) (eVar 1)))) (tVal (eBin oNe (eCall fLen (aCons (eVar 1) aNil)) (eVar 0)))) (sRet (eC (.bl false))) sNop)
    (sRet (eBin oEq (eCall fLen (aCons (eFr (fLc (iSeq (eVar 1)) (DL.gName 2) (DL.tOr (DL.tNot (tVal (eCall F__law_is_integer (aCons (eVar 2) aNil)))) (DL.tOr (tVal (eBin oLt (eVar 2) (eC (.int 0)))) (tVal (eBin oGt (eVar 2) (eC (.int 1000000)))))) (eVar 2) [2])) aNil)) (eC (.int 0)))))

def mb_is_move : MS :=
  (sSeq (sIf (DL.tOr (DL.tNot (tVal (eUn (oIsA .tuple) (eVar 2)))) (tVal (eBin oNe (eCall fLen (aCons (eVar 2) aNil)) (eC (.int 3))))) (sRet (eC (.bl false))) sNop)
    (sSeq (sAsg (DL.gTup (DL.gCons (DL.gName 3) (DL.gCons (DL.gName 4) (DL.gCons (DL.gName 5) DL.gNil)))) (eVar 2))
    (sSeq (sIf (DL.tOr (DL.tNot (tVal (eCall F_is_within (aCons (eVar 3) (aCons (eC (.int 0)) (aCons (eBin oSub (eVar 1) (eC (.int 1))) aNil)))))) (DL.tNot (tVal (eCall F_is_within (aCons (eVar 4) (aCons (eC (.int 0)) (aCons (eBin oSub (eVar 1) (eC (.int 1))) aNil))))))) (sRet (eC (.bl false))) sNop)
    (sRet (eAnd (eBin oNe (eVar 3) (eVar 4)) (eCall F_is_profile (aCons (eVar 0) (aCons (eVar 5) aNil))))))))

def mb_is_chart : MS :=
  (sSeq (sIf (DL.tOr (DL.tNot (tVal (eUn (oIsA .tuple) (eVar 1)))) (tVal (eBin oNe (eCall fLen (aCons (eVar 1) aNil)) (eC (.int 2))))) (sRet (eC (.bl false))) sNop)
    (sSeq (sAsg (DL.gTup (DL.gCons (DL.gName 2) (DL.gCons (DL.gName 3) DL.gNil))) (eVar 1))
    (sSeq (sIf (DL.tOr (DL.tNot (tVal (eUn (oIsA .tuple) (eVar 2)))) (DL.tNot (tVal (eChain oLe oLe (eC (.int 1)) (eCall fLen (aCons (eVar 2) aNil)) (eC (.int 8)))))) (sRet (eC (.bl false))) sNop)
    (sSeq (sIf (DL.tNot (tVal (eAllG (iSeq (eVar 2)) (DL.gName 4) tNone (eCall F_is_profile (aCons (eVar 0) (aCons (eVar 4) aNil))) [4]))) (sRet (eC (.bl false))) sNop)
    (sSeq (sIf (DL.tOr (DL.tNot (tVal (eUn (oIsA .tuple) (eVar 3)))) (tVal (eBin oGt (eCall fLen (aCons (eVar 3) aNil)) (eC (.int 20))))) (sRet (eC (.bl false))) sNop)
    (sRet (eAllG (iSeq (eVar 3)) (DL.gName 4) tNone (eCall F_is_move (aCons (eVar 0) (aCons (eCall fLen (aCons (eVar 2) aNil)) (aCons (eVar 4) aNil)))) [4])))))))

def mb__law_is_chart_1 : MS :=
  (sRet (eC (.bl true)))
def mb__law_is_chart : MS :=
  (sSeq (sIf (DL.tOr (DL.tNot (tVal (eUn (oIsA .tuple) (eVar 1)))) (DL.tOr (tVal (eBin oNe (eCall fLen (aCons (eVar 1) aNil)) (eC (.int 2)))) (DL.tOr (DL.tNot (tVal (eUn (oIsA .tuple) (eBin oIx (eVar 1) (eC (.int 0)))))) (DL.tNot (tVal (eUn (oIsA .tuple) (eBin oIx (eVar 1) (eC (.int 1))))))))) (sRet (eC (.bl false))) sNop)
    (sSeq (sSet 2 (eCall fLen (aCons (eBin oIx (eVar 1) (eC (.int 0))) aNil)))
    (sSeq (sIf (DL.tOr (tVal (eBin oLt (eVar 2) (eC (.int 1)))) (DL.tOr (tVal (eBin oGt (eVar 2) (eC (.int 8)))) (DL.tOr (tVal (eBin oGt (eCall fLen (aCons (eBin oIx (eVar 1) (eC (.int 1))) aNil)) (eC (.int 20)))) (tVal (eBin oGt (eCall fLen (aCons (eFr (fLc (iSeq (eBin oIx (eVar 1) (eC (.int 0)))) (DL.gName 3) (DL.tNot (tVal (eCall F__law_is_profile (aCons (eVar 0) (aCons (eVar 3) aNil))))) (eVar 3) [3])) aNil)) (eC (.int 0))))))) (sRet (eC (.bl false))) sNop)
    (sSeq (sFor (iSeq (eBin oIx (eVar 1) (eC (.int 1)))) (DL.gName 4)
    (sSeq (sIf (DL.tOr (DL.tNot (tVal (eUn (oIsA .tuple) (eVar 4)))) (DL.tOr (tVal (eBin oNe (eCall fLen (aCons (eVar 4) aNil)) (eC (.int 3)))) (DL.tNot (tVal (eCall F__law_is_profile (aCons (eVar 0) (aCons (eBin oIx (eVar 4) (eC (.int 2))) aNil))))))) (sRet (eC (.bl false))) sNop)
    (sIf (DL.tOr (tVal (eBin oGt (eCall fLen (aCons (eFr (fLc (iSeq (eCut (eVar 4) pNo (pAt (eC (.int 2))))) (DL.gName 5) (DL.tOr (DL.tNot (tVal (eCall F__law_is_integer (aCons (eVar 5) aNil)))) (DL.tOr (tVal (eBin oLt (eVar 5) (eC (.int 0)))) (tVal (eBin oGe (eVar 5) (eVar 2))))) (eVar 5) [5])) aNil)) (eC (.int 0)))) (tVal (eBin oEq (eBin oIx (eVar 4) (eC (.int 0))) (eBin oIx (eVar 4) (eC (.int 1)))))) (sRet (eC (.bl false))) sNop)))
    mb__law_is_chart_1))))

def mb__law_plus : MS :=
  (sRet (eCall fTuple (aCons (eFr (fLc (iRange1 (eCall fLen (aCons (eVar 0) aNil))) (DL.gName 2) tNone (eBin oAdd (eBin oIx (eVar 0) (eVar 2)) (eBin oIx (eVar 1) (eVar 2))) [2])) aNil)))

theorem hF_is_profile : ∀ ds Q, F_is_profile ds Q → ds.length = 2 ∧ mb_is_profile { nx := fun _ => Q .non, rt := Q } (dstart 2 ds) := by
  rintro ds Q ⟨n, d, rfl, hd, hP⟩
  refine ⟨rfl, ?_⟩
  simp [mb_is_profile, dstart]
  exact ⟨d, n, 0, 1000000, rfl, hd, hP⟩
theorem hF__law_is_profile : ∀ ds Q, F__law_is_profile ds Q → ds.length = 2 ∧ mb__law_is_profile { nx := fun _ => Q .non, rt := Q } (dstart 3 ds) := by
  rintro ds Q ⟨n, d, rfl, hd, hP⟩
  refine ⟨rfl, ?_⟩
  cases d with
  | tup xs =>
    obtain ⟨h1, h2⟩ := hd
    simp [mb__law_is_profile, dstart]
    by_cases hn : (xs.length : Int) = (n : Int)
    · rw [if_pos hn]
      have hn' : xs.length = n := by omega
      have e0 : xs = xs.map id := by simp
      refine ⟨by omega, ?_⟩
      rw [e0]
      refine lc_filter id (fun d => !isIn 0 1000000 d) (fun d hdm Kk Kn hL => ?_) _ ?_
      · simp
        refine ⟨d, rfl, h2 d hdm, ?_⟩
        have ho := h2 d hdm
        cases d with
        | int i =>
          simp [isInt, isIn] at hL ⊢
          by_cases a1 : i < 0
          · have : ¬ (0 ≤ i) := by omega
            simp [a1, this] at hL ⊢
            exact hL
          · by_cases a2 : 1000000 < i
            · have : ¬ (i ≤ 1000000) := by omega
              have a3 : 0 ≤ i := by omega
              simp [a1, a2, a3, this] at hL ⊢
              exact hL
            · have a4 : i ≤ 1000000 := by omega
              have a3 : 0 ≤ i := by omega
              simp [a1, a2, a3, a4] at hL ⊢
              exact hL
        | _ => simpa [isInt, isIn] using hL
      · have e : (((xs.filter fun d => !isIn 0 1000000 d).length : Int) == 0) = xs.all (isIn 0 1000000) := by
          rw [Bool.eq_iff_iff]; simp
        simp only [List.nil_append, List.map_id, e]
        simpa [hn', isInts] using hP
    · rw [if_neg hn]
      have hn' : ¬ xs.length = n := by omega
      simpa [hn', isInts] using hP
  | _ => first
    | (simp [okE, okD] at hd; done)
    | (simpa [mb__law_is_profile, dstart, isInts] using hP)
theorem len2 {α : Type} : ∀ {xs : List α}, xs.length = 2 → ∃ a b, xs = [a, b]
  | [a, b], _ => ⟨a, b, rfl⟩
theorem len3 {α : Type} : ∀ {xs : List α}, xs.length = 3 → ∃ a b c, xs = [a, b, c]
  | [a, b, c], _ => ⟨a, b, c, rfl⟩
theorem isIn_int {lo hi : Int} : ∀ {d : D}, isIn lo hi d = true → ∃ i, d = .int i
  | .int i, _ => ⟨i, rfl⟩
theorem hF_is_move : ∀ ds Q, F_is_move ds Q → ds.length = 3 ∧ mb_is_move { nx := fun _ => Q .non, rt := Q } (dstart 6 ds) := by
  rintro ds Q ⟨n, f, d, rfl, hd, hP⟩
  refine ⟨rfl, ?_⟩
  cases d with
  | tup xs =>
    obtain ⟨h1, h2⟩ := deep_tup hd
    simp [mb_is_move, dstart]
    by_cases hn : (xs.length : Int) = 3
    · rw [if_pos hn]
      obtain ⟨a, b, c, rfl⟩ := len3 (show xs.length = 3 by omega)
      have ha := deep_ok (h2 a (by simp))
      have hb := deep_ok (h2 b (by simp))
      have hc := deep_okE (h2 c (by simp))
      simp
      refine ⟨a, 0, (f : Int) - 1, rfl, ha, ?_⟩
      cases h3 : isIn 0 ((f : Int) - 1) a with
      | false => simpa [isMove, h3] using hP
      | true =>
        simp
        refine ⟨b, 0, (f : Int) - 1, rfl, hb, ?_⟩
        cases h4 : isIn 0 ((f : Int) - 1) b with
        | false => simpa [isMove, h3, h4] using hP
        | true =>
          obtain ⟨i, rfl⟩ := isIn_int h3
          obtain ⟨j, rfl⟩ := isIn_int h4
          simp
          by_cases hij : i = j
          · simpa [isMove, h3, h4, neI, hij] using hP
          · simp [hij]
            refine ⟨n, c, rfl, hc, ?_⟩
            simpa [isMove, h3, h4, neI, hij] using hP
    · rw [if_neg hn]
      rw [isMove_len n f xs (by omega)] at hP
      exact hP
  | _ => first
    | (simp [deep] at hd; done)
    | (simpa [mb_is_move, dstart, isMove] using hP)
theorem isChart_len (n : Nat) (xs : List D) (h : xs.length ≠ 2) : isChart n (.tup xs) = false := by
  match xs, h with
  | [], _ => rfl
  | [_], _ => simp [isChart]
  | [_, _], h => exact absurd rfl h
  | _ :: _ :: _ :: _, _ => simp [isChart]
theorem isChart_no1 {n : Nat} {fs : List D} {b : D} (h : ¬ (1 ≤ fs.length ∧ fs.length ≤ 8)) : isChart n (.tup [.tup fs, b]) = false := by
  cases b with
  | tup ms =>
    simp only [isChart]
    have : (decide (1 ≤ fs.length) && decide (fs.length ≤ 8)) = false := by
      rw [Bool.eq_false_iff]; intro z; simp only [Bool.and_eq_true, decide_eq_true_eq] at z; exact h z
    rw [this]; rfl
  | _ => rfl
theorem isChart_no2 {n : Nat} {fs : List D} {b : D} (h : fs.all (isInts n 0 1000000) = false) : isChart n (.tup [.tup fs, b]) = false := by
  cases b with
  | tup ms => simp only [isChart, h, Bool.false_and, Bool.and_false]
  | _ => rfl
theorem hF_is_chart : ∀ ds Q, F_is_chart ds Q → ds.length = 2 ∧ mb_is_chart { nx := fun _ => Q .non, rt := Q } (dstart 5 ds) := by
  rintro ds Q ⟨n, d, rfl, hd, hP⟩
  refine ⟨rfl, ?_⟩
  cases d with
  | tup xs =>
    obtain ⟨h1, h2⟩ := deep_tup hd
    simp [mb_is_chart, dstart]
    by_cases hn : (xs.length : Int) = 2
    · rw [if_pos hn]
      obtain ⟨a, b, rfl⟩ := len2 (show xs.length = 2 by omega)
      have ha := h2 a (by simp)
      have hb := h2 b (by simp)
      simp
      cases a with
      | tup fs =>
        obtain ⟨f1, f2⟩ := deep_tup ha
        simp
        by_cases g1 : (1 : Int) ≤ fs.length
        · rw [if_pos g1]
          by_cases g2 : (8 : Int) < fs.length
          · rw [if_pos g2]
            rw [isChart_no1 (fun z => by omega)] at hP
            exact hP
          · rw [if_neg g2]
            refine all_ind (isInts n 0 1000000) (fun d hdm L hL => ?_) ?_
            · simp [genTurn, yAll]
              exact ⟨n, d, rfl, deep_okE (f2 d hdm), by simpa [isChart_no2] using hL⟩
            · cases hall : fs.all (isInts n 0 1000000) with
              | false =>
                rw [isChart_no2 hall] at hP
                simpa using hP
              | true =>
                cases b with
                | tup ms =>
                  obtain ⟨m1, m2⟩ := deep_tup hb
                  simp
                  by_cases g3 : (20 : Int) < ms.length
                  · rw [if_pos g3]
                    have : ¬ ms.length ≤ 20 := by omega
                    simpa [isChart, this] using hP
                  · rw [if_neg g3]
                    have g1' : 1 ≤ fs.length := by omega
                    have g2' : fs.length ≤ 8 := by omega
                    have g3' : ms.length ≤ 20 := by omega
                    refine all_ind (isMove n fs.length) (fun d hdm L hL => ?_) ?_
                    · simp [genTurn, yAll]
                      exact ⟨n, fs.length, d, rfl, m2 d hdm, hL⟩
                    · have e : isChart n (.tup [.tup fs, .tup ms]) = ms.all (isMove n fs.length) := by
                        simp only [isChart, hall, decide_eq_true g1', decide_eq_true g2', decide_eq_true g3', Bool.true_and]
                      rw [e] at hP
                      exact hP
                | _ => first
                  | (simp [deep] at hb; done)
                  | (simpa [isChart] using hP)
        · rw [if_neg g1]
          rw [isChart_no1 (fun z => by omega)] at hP
          exact hP
      | _ => first
        | (simp [deep] at ha; done)
        | (simpa [isChart] using hP)
    · rw [if_neg hn]
      rw [isChart_len n xs (by omega)] at hP
      exact hP
  | _ => first
    | (simp [deep] at hd; done)
    | (simpa [mb_is_chart, dstart, isChart] using hP)
theorem lc_filterD {g : MG} {t : MT} {e : ME} {b : DEnv} {P : List D → Prop} (p : D → Bool) {xs : List D}
    (h1 : ∀ x, x ∈ xs → ∀ (Kk : D → Prop) (Kn : Prop), (if p x = true then Kk x else Kn) → g x b fun e1 => t e1 fun k e2 => if k = true then e e2 fun y _ => Kk y else Kn) (acc : List D) (h : P (acc ++ xs.filter p)) : lcLoop g t e b P xs acc := by
  have := lc_filter (g := g) (t := t) (e := e) (b := b) (P := P) id p (xs := xs) h1 acc (by rw [List.map_id]; exact h)
  rw [List.map_id] at this
  exact this
theorem isMove_no {n f : Nat} {d : D} (h : ∀ xs, d = .tup xs → xs.length ≠ 3) : isMove n f d = false := by
  cases d with
  | tup xs => exact isMove_len n f xs (h xs rfl)
  | _ => rfl
theorem hF__law_is_chart : ∀ ds Q, F__law_is_chart ds Q → ds.length = 2 ∧ mb__law_is_chart { nx := fun _ => Q .non, rt := Q } (dstart 6 ds) := by
  rintro ds Q ⟨n, d, rfl, hd, hP⟩
  refine ⟨rfl, ?_⟩
  cases d with
  | tup xs =>
    obtain ⟨h1, h2⟩ := deep_tup hd
    simp [mb__law_is_chart, dstart]
    by_cases hn : (xs.length : Int) = 2
    · rw [if_pos hn]
      obtain ⟨a, b, rfl⟩ := len2 (show xs.length = 2 by omega)
      have ha := h2 a (by simp)
      have hb := h2 b (by simp)
      have i0 : ∀ a b : D, atI [a, b] 0 = some a := fun a b => by simp [atI, ixN]
      have i1 : ∀ a b : D, atI [a, b] 1 = some b := fun a b => by simp [atI, ixN]
      simp [i0, i1]
      cases a with
      | tup fs =>
        obtain ⟨f1, f2⟩ := deep_tup ha
        simp [i0, i1]
        cases b with
        | tup ms =>
          obtain ⟨m1, m2⟩ := deep_tup hb
          simp [i0, i1]
          have g1n : ∀ h : (fs.length : Int) < 1, Q (.bl false) := fun h => by
            rw [isChart_no1 (fun z => by omega)] at hP; exact hP
          have g2n : ∀ h : (8 : Int) < fs.length, Q (.bl false) := fun h => by
            rw [isChart_no1 (fun z => by omega)] at hP; exact hP
          have g3n : ∀ h : (20 : Int) < ms.length, Q (.bl false) := fun h => by
            have : ¬ ms.length ≤ 20 := by omega
            simpa [isChart, this] using hP
          by_cases g1 : (fs.length : Int) < 1
          · rw [if_pos g1]; exact g1n g1
          rw [if_neg g1]
          by_cases g2 : (8 : Int) < fs.length
          · rw [if_pos g2]; exact g2n g2
          rw [if_neg g2]
          by_cases g3 : (20 : Int) < ms.length
          · rw [if_pos g3]; exact g3n g3
          rw [if_neg g3]
          refine ⟨by omega, lc_filterD (fun d => !isInts n 0 1000000 d) (fun d hdm Kk Kn hL => ?_) _ ?_⟩
          · simp
            refine ⟨n, d, rfl, deep_okE (f2 d hdm), ?_⟩
            simpa using hL
          rw [List.nil_append]
          by_cases hall : fs.all (isInts n 0 1000000) = true
          · have e1 : (fs.filter fun d => !isInts n 0 1000000 d) = [] := by
              rw [List.filter_eq_nil_iff]; intro d hd; simp [List.all_eq_true.mp hall d hd]
            rw [e1]
            rw [if_neg (by simp)]
            have e : isChart n (.tup [.tup fs, .tup ms]) = ms.all (isMove n fs.length) := by
              have g1' : 1 ≤ fs.length := by omega
              have g2' : fs.length ≤ 8 := by omega
              have g3' : ms.length ≤ 20 := by omega
              simp only [isChart, hall, decide_eq_true g1', decide_eq_true g2', decide_eq_true g3', Bool.true_and]
            rw [e] at hP
            refine loop_ind (fun ds env => ∃ x4 x5, (∀ d ∈ ds, deep d = true) ∧ Q (.bl (ds.all (isMove n fs.length))) ∧ env = [some (Sl.val (dN n)), some (Sl.val (D.tup [D.tup fs, D.tup ms])), some (Sl.val (D.int ↑fs.length)), none, x4, x5]) ?_ ?_ _ _ ⟨_, _, m2, hP, rfl⟩
            · rintro env ⟨x4, x5, _, q, rfl⟩
              simpa [mb__law_is_chart_1] using q
            · rintro d ds Kk env hK ⟨x4, x5, hdd, q, rfl⟩
              have hd1 := hdd d (List.mem_cons_self ..)
              rw [List.all_cons] at q
              have next : isMove n fs.length d = true → ∀ x4 x5, Kk [some (Sl.val (dN n)), some (Sl.val (D.tup [D.tup fs, D.tup ms])), some (Sl.val (D.int ↑fs.length)), none, x4, x5] := fun h x4 x5 =>
                hK _ ⟨_, _, fun d hd => hdd d (List.mem_cons_of_mem _ hd), by simpa [h] using q, rfl⟩
              have bad : isMove n fs.length d = false → Q (.bl false) := fun h => by simpa [h] using q
              cases d with
              | tup xs =>
                obtain ⟨x1, x2⟩ := deep_tup hd1
                simp
                by_cases hx : (xs.length : Int) = 3
                · rw [if_pos hx]
                  obtain ⟨a, b, c, rfl⟩ := len3 (show xs.length = 3 by omega)
                  have i0 : atI [a, b, c] 0 = some a := by simp [atI, ixN]
                  have i1 : atI [a, b, c] 1 = some b := by simp [atI, ixN]
                  have i2 : atI [a, b, c] 2 = some c := by simp [atI, ixN]
                  have ic : cut [a, b, c] none (some 2) = [a, b] := cut_take [a, b, c] 2
                  simp [i0, i1, i2, ic]
                  refine ⟨n, c, rfl, deep_okE (x2 c (by simp)), ?_⟩
                  cases hc : isInts n 0 1000000 c with
                  | false => exact bad (by simp [isMove, hc])
                  | true =>
                    refine lc_filterD (fun d => !isIn 0 ((fs.length : Int) - 1) d) (fun d hdm Kk2 Kn hL => ?_) _ ?_
                    · have ho : deep d = true := x2 d (by simp at hdm ⊢; rcases hdm with h | h <;> simp [h])
                      simp
                      refine ⟨d, rfl, deep_ok ho, ?_⟩
                      cases d with
                      | int i =>
                        simp [isInt, isIn] at hL ⊢
                        by_cases a1 : i < 0
                        · have : ¬ (0 ≤ i) := by omega
                          simp [a1, this] at hL ⊢
                          exact hL
                        · by_cases a2 : (fs.length : Int) ≤ i
                          · have : ¬ (i ≤ (fs.length : Int) - 1) := by omega
                            have a3 : 0 ≤ i := by omega
                            simp [a1, a2, a3] at hL ⊢
                            rw [if_pos (by omega)] at hL
                            exact hL
                          · have a4 : i ≤ (fs.length : Int) - 1 := by omega
                            have a3 : 0 ≤ i := by omega
                            simp [a1, a2, a3] at hL ⊢
                            rw [if_neg (by omega)] at hL
                            exact hL
                      | _ => simpa [isInt, isIn] using hL
                    · rw [List.nil_append]
                      cases ha : isIn 0 ((fs.length : Int) - 1) a with
                      | false =>
                        rw [if_pos (by simp [ha])]
                        exact bad (by simp [isMove, ha])
                      | true =>
                        cases hb : isIn 0 ((fs.length : Int) - 1) b with
                        | false =>
                          rw [if_pos (by simp [ha, hb])]
                          exact bad (by simp [isMove, ha, hb])
                        | true =>
                          rw [if_neg (by simp [ha, hb])]
                          obtain ⟨i, rfl⟩ := isIn_int ha
                          obtain ⟨j, rfl⟩ := isIn_int hb
                          refine ⟨rfl, rfl, ?_⟩
                          by_cases hij : i = j
                          · rw [if_pos (by simp [hij])]
                            exact bad (by simp [isMove, ha, hb, neI, hij])
                          · rw [if_neg (by simp [hij])]
                            exact next (by simp [isMove, ha, hb, hc, neI, hij]) _ _
                · rw [if_neg hx]
                  exact bad (isMove_len n _ xs (by omega))
              | _ => first
                | (simp [deep] at hd1; done)
                | (simpa using bad rfl)
          · rw [isChart_no2 (by simpa using hall)] at hP
            have : 0 < (fs.filter fun d => !isInts n 0 1000000 d).length := by
              rcases Nat.eq_zero_or_pos (fs.filter fun d => !isInts n 0 1000000 d).length with z | z
              · refine absurd (List.all_eq_true.mpr fun x hx => ?_) hall
                have := List.filter_eq_nil_iff.mp (List.eq_nil_of_length_eq_zero z) x hx
                simpa using this
              · exact z
            rw [if_pos this]
            exact hP
        | _ => first
          | (simp [deep] at hb; done)
          | (simpa [isChart] using hP)
      | _ => first
        | (simp [deep] at ha; done)
        | (simpa [isChart] using hP)
    · rw [if_neg hn]
      rw [isChart_len n xs (by omega)] at hP
      exact hP
  | _ => first
    | (simp [deep] at hd; done)
    | (simpa [mb__law_is_chart, dstart, isChart] using hP)
theorem hF__law_plus : ∀ ds Q, F__law_plus ds Q → ds.length = 2 ∧ mb__law_plus { nx := fun _ => Q .non, rt := Q } (dstart 3 ds) := by
  rintro ds Q ⟨a, b, rfl, hl, hn, hP⟩
  refine ⟨rfl, ?_⟩
  simp [mb__law_plus, dstart]
  have er : intsD 0 a.length = (List.range a.length).map dN := ints0 _
  rw [er]
  simp
  refine ⟨by omega, by omega, lc_filterMap dN (fun j => .int (at0 a j + at0 b j)) (fun _ => true) (fun j hj Kk Kn h => ?_) _ ?_⟩
  · have hj := List.mem_range.mp hj
    have e1 := atI_tI (c := a) (x := j) hj
    have e2 := atI_tI (c := b) (x := j) (by omega)
    simp [e1, e2] at h ⊢
    exact h
  · rw [List.filter_eq_self.mpr (fun _ _ => rfl)]
    have e : (List.range a.length).map (fun j => at0 a j + at0 b j) = List.zipWith (· + ·) a b := by
      refine List.ext_getElem (by simp; omega) fun k k1 k2 => ?_
      have k1' : k < a.length := by simpa using k1
      have k2' : k < b.length := by omega
      simp [at0, List.getD_eq_getElem?_getD, k1', k2']
    rw [← e] at hP
    simpa [tI, Function.comp_def] using hP
end DL

set_option Elab.async false
set_option linter.all false
set_option autoImplicit false
set_option maxRecDepth 100000
/-! DC10: papers of rankings, judged. -/
namespace DL
open PySem (Str)
noncomputable def pb (p : Prop) : Bool := @decide p (Classical.propDecidable p)
theorem pb_iff {p : Prop} : pb p = true ↔ p := by unfold pb; exact @decide_eq_true_iff p (Classical.propDecidable p)
theorem pb_of {p : Prop} {b : Bool} (h : b = true ↔ p) : pb p = b := by
  rw [Bool.eq_iff_iff, pb_iff]; exact h.symm
theorem pb_congr {p q : Prop} (h : p ↔ q) : pb p = pb q := by rw [Bool.eq_iff_iff, pb_iff, pb_iff]; exact h
theorem pb_no {p : Prop} (h : ¬ p) : pb p = false := by rw [Bool.eq_false_iff]; intro z; exact h (pb_iff.mp z)
theorem pb_yes {p : Prop} (h : p) : pb p = true := pb_iff.mpr h
/-! data that the judges are asked of -/
mutual
def deepS : D → Bool
  | .pool => false
  | .frz _ => false
  | .rnk _ => false
  | .gd _ _ => false
  | .str x => x.cps.all (· < 0x110000)
  | .tup xs => decide (xs.length ≤ 1000) && deepSs xs
  | .lst xs => deepSs xs
  | _ => true
def deepSs : List D → Bool
  | [] => true
  | x :: xs => deepS x && deepSs xs
end
theorem deepSs_mem : ∀ {xs : List D}, deepSs xs = true → ∀ x ∈ xs, deepS x = true
  | [], _, x, hx => by simp at hx
  | y :: ys, h, x, hx => by
    simp only [deepSs, Bool.and_eq_true] at h
    rcases List.mem_cons.mp hx with rfl | hx
    · exact h.1
    · exact deepSs_mem h.2 x hx
theorem deepSs_of : ∀ {xs : List D}, (∀ x ∈ xs, deepS x = true) → deepSs xs = true
  | [], _ => rfl
  | y :: ys, h => by simp only [deepSs, Bool.and_eq_true]; exact ⟨h y (List.mem_cons_self ..), deepSs_of fun x hx => h x (List.mem_cons_of_mem _ hx)⟩
theorem deepS_ok {d : D} (h : deepS d = true) : okD d = true := by cases d <;> first | rfl | (simp [deepS] at h)
theorem deepS_tup {xs : List D} (h : deepS (.tup xs) = true) : xs.length ≤ 1000 ∧ ∀ x ∈ xs, deepS x = true := by
  simp only [deepS, Bool.and_eq_true, decide_eq_true_eq] at h
  exact ⟨h.1, deepSs_mem h.2⟩
theorem tup_deepS {xs : List D} (h : xs.length ≤ 1000) (h2 : ∀ x ∈ xs, deepS x = true) : deepS (.tup xs) = true := by
  simp only [deepS, Bool.and_eq_true, decide_eq_true_eq]
  exact ⟨h, deepSs_of h2⟩
theorem deepS_okE {d : D} (h : deepS d = true) : okE d := by
  cases d with
  | tup xs => exact ⟨(deepS_tup h).1, fun x hx => deepS_ok ((deepS_tup h).2 x hx)⟩
  | _ => exact deepS_ok h
theorem deepS_tN (r : List Nat) (h : r.length ≤ 1000) : deepS (tN r) = true := tup_deepS (by simpa using h) fun x hx => by obtain ⟨y, _, rfl⟩ := List.mem_map.mp hx; rfl
theorem deepS_tI (r : List Int) (h : r.length ≤ 1000) : deepS (tI r) = true := tup_deepS (by simpa using h) fun x hx => by obtain ⟨y, _, rfl⟩ := List.mem_map.mp hx; rfl
theorem deepS_odd : ∀ d ∈ oddV, deepS d = true := deepSs_mem (by decide +kernel)
/-! ### rankings -/
def RankP (n : Nat) (d : D) : Prop := ∃ r : List Nat, d = tN r ∧ r.Perm (List.range n)
theorem sorted_rank {n : Nat} {ns ns' : List Int} (hp : ns'.Perm ns) (hs : ns'.Pairwise (· ≤ ·)) : (ns' = (List.range n).map fun k : Nat => (k : Int)) ↔ RankP n (tI ns) := by
  constructor
  · rintro rfl
    have hnat : ∀ x ∈ ns, ∃ k : Nat, x = (k : Int) := fun x hx => by
      obtain ⟨k, _, e⟩ := List.mem_map.mp (hp.mem_iff.mpr hx)
      exact ⟨k, e.symm⟩
    have e : ns = (ns.map Int.toNat).map fun k : Nat => (k : Int) := by
      rw [List.map_map]
      conv => lhs; rw [← List.map_id ns]
      refine List.map_congr_left fun x hx => ?_
      obtain ⟨k, rfl⟩ := hnat x hx
      simp
    refine ⟨ns.map Int.toNat, ?_, ?_⟩
    · show D.tup (ns.map D.int) = D.tup ((ns.map Int.toNat).map dN)
      conv => lhs; rw [e]
      rw [List.map_map]; rfl
    · have q := (hp.symm.map Int.toNat)
      rw [List.map_map] at q
      have : (List.range n).map (Int.toNat ∘ fun k : Nat => (k : Int)) = List.range n := by
        conv => rhs; rw [← List.map_id (List.range n)]
        exact List.map_congr_left fun x _ => by simp
      rw [this] at q
      exact q
  · rintro ⟨r, e, hr⟩
    have e1 : ns.map D.int = r.map dN := by injection e
    have e2 : ns = r.map fun k : Nat => (k : Int) := by
      have : (r.map dN) = (r.map fun k : Nat => (k : Int)).map D.int := by rw [List.map_map]; rfl
      rw [this] at e1
      exact (List.map_inj_right (fun a b h => by injection h)).mp e1
    have hp2 : ns'.Perm ((List.range n).map fun k : Nat => (k : Int)) := hp.trans (by rw [e2]; exact hr.map _)
    refine hp2.eq_of_pairwise (le := (· ≤ ·)) (fun a b _ _ h1 h2 => by omega) hs ?_
    rw [List.pairwise_map]
    exact (List.pairwise_lt_range).imp fun h => by omega
def F_is_ranking : FD := fun ds P => ∃ (n : Nat) (d : D), ds = [dN n, d] ∧ okE d ∧ n ≤ 1000 ∧ P (.bl (pb (RankP n d)))
abbrev F__law_is_ranking := F_is_ranking
theorem rank_len {n : Nat} {xs : List D} (h : RankP n (.tup xs)) : xs.length = n ∧ ∀ x ∈ xs, ∃ k : Nat, k < n ∧ x = dN k := by
  obtain ⟨r, e, hr⟩ := h
  have e : xs = r.map dN := by injection e
  subst e
  refine ⟨by have := hr.length_eq; simpa using this, fun x hx => ?_⟩
  obtain ⟨k, hk, rfl⟩ := List.mem_map.mp hx
  exact ⟨k, List.mem_range.mp (hr.mem_iff.mp hk), rfl⟩
theorem allInts : ∀ {xs : List D}, (∀ x ∈ xs, ∃ i, x = D.int i) → ∃ ns : List Int, xs = ns.map D.int
  | [], _ => ⟨[], rfl⟩
  | x :: xs, h => by
    obtain ⟨i, rfl⟩ := h x (List.mem_cons_self ..)
    obtain ⟨ns, rfl⟩ := allInts (xs := xs) fun y hy => h y (List.mem_cons_of_mem _ hy)
    exact ⟨i :: ns, rfl⟩
/-! ### places -/
def asc (pl : List Nat) : Bool := (List.range (pl.length - 1)).all fun k => decide (pl.getD k 0 < pl.getD (k + 1) 0)
def PlacesP (m least : Nat) (d : D) : Prop := ∃ pl : List Nat, d = tN pl ∧ least ≤ pl.length ∧ (∀ k ∈ pl, k < m) ∧ asc pl = true
abbrev pairD (p : Nat × Nat) : D := .tup [dN p.1, dN p.2]
def pltB (p q : Nat × Nat) : Bool := lexLt [(p.1 : Int), (p.2 : Int)] [(q.1 : Int), (q.2 : Int)]
def ascP (ps : List (Nat × Nat)) : Bool := (List.range (ps.length - 1)).all fun k => pltB (ps.getD k (0, 0)) (ps.getD (k + 1) (0, 0))
def F_is_ascending : FD := fun ds P => (∃ pl : List Nat, ds = [tN pl] ∧ pl.length ≤ 1000 ∧ P (.bl (asc pl))) ∨ (∃ ps : List (Nat × Nat), ds = [.tup (ps.map pairD)] ∧ ps.length ≤ 1000 ∧ P (.bl (ascP ps)))
def F_is_places_or_none : FD := fun ds P => ∃ (d : D) (m : Nat), ds = [d, dN m] ∧ okE d ∧ m ≤ 1000 ∧ P (.bl (pb (PlacesP m 0 d)))
def F_is_places : FD := fun ds P => ∃ (d : D) (m : Nat), ds = [d, dN m] ∧ okE d ∧ m ≤ 1000 ∧ P (.bl (pb (PlacesP m 1 d)))
def F__law_is_places : FD := fun ds P => ∃ (d : D) (m least : Nat), ds = [d, dN m, dN least] ∧ okE d ∧ m ≤ 1000 ∧ P (.bl (pb (PlacesP m least d)))
/-! ### words -/
def isW (w : Str) (l : Nat) : D → Bool
  | .tup (.str s :: xs) => decide (xs.length + 1 = l) && s == w
  | _ => false
theorem isW_pair {w : Str} {d : D} (h : isW w 2 d = true) : ∃ v, d = .tup [.str w, v] := by
  match d, h with
  | .tup [.str s, v], h =>
    simp [isW] at h
    subst h
    exact ⟨v, rfl⟩
def F_is_worded : FD := fun ds P => ∃ (d : D) (w : Str) (l : Nat), ds = [d, .str w, dN l] ∧ deepS d = true ∧ deepS (.str w) = true ∧ 0 < l ∧ P (.bl (isW w l d))
abbrev F__law_is_worded := F_is_worded
def F_is_word_pair : FD := fun ds P => ∃ (d : D) (w : Str), ds = [d, .str w] ∧ deepS d = true ∧ deepS (.str w) = true ∧ P (.bl (isW w 2 d))
/-! ### papers -/
abbrev F_meets_all := F__law_meets_all
abbrev F_is_hopeless := F__law_hopeless
def hop (row : List Int) : Bool := decide (-1 ∈ row) && !decide (1 ∈ row)
def picked (rows : List (List Int)) (pl : List Nat) : List (List Int) := pl.map fun k => rows.getD k []
def F_is_clash : FD := fun ds P => ∃ (n : Nat) (rows : List (List Int)) (pl : List Nat), (ds = [dN n, lI rows, tN pl] ∨ ds = [dN n, lI rows, .lst (pl.map dN)]) ∧ n ≤ 1000 ∧ rows.length ≤ 1000 ∧ pl.length ≤ 1000 ∧ (∀ c ∈ rows, c.length = n) ∧ (∀ k ∈ pl, k < rows.length) ∧ P (.bl (hop (fusion n (picked rows pl))))
def ClashP (n : Nat) (rows : List (List Int)) (d : D) : Prop := ∃ pl : List Nat, d = tN pl ∧ 1 ≤ pl.length ∧ (∀ k ∈ pl, k < rows.length) ∧ asc pl = true ∧ hop (fusion n (picked rows pl)) = true
def F__law_is_clash : FD := fun ds P => ∃ (n : Nat) (rows : List (List Int)) (d : D), ds = [dN n, lI rows, d] ∧ n ≤ 1000 ∧ rows.length ≤ 1000 ∧ (∀ c ∈ rows, c.length = n) ∧ okE d ∧ P (.bl (pb (ClashP n rows d)))
def RP (n : Nat) (rows : List (List Int)) (d : D) : Prop := (∃ r : List Nat, d = .tup [.str "ranking", tN r] ∧ r.Perm (List.range n) ∧ rows.all (meets r) = true) ∨ (∃ v, d = .tup [.str "clash", v] ∧ ClashP n rows v)
def F_check_ranking_paper : FD := fun ds P => ∃ (n : Nat) (rows : List (List Int)) (d : D), ds = [dN n, lI rows, d] ∧ n ≤ 1000 ∧ rows.length ≤ 1000 ∧ (∀ c ∈ rows, c.length = n) ∧ deepS d = true ∧ P (.bl (pb (RP n rows d)))
abbrev F__law_is_ranking_paper := F_check_ranking_paper
def mb_is_worded : MS :=
  (sSeq (sIf (DL.tOr (DL.tNot (tVal (eUn (oIsA .tuple) (eVar 0)))) (tVal (eBin oNe (eCall fLen (aCons (eVar 0) aNil)) (eVar 2)))) (sRet (eC (.bl false))) sNop)
    (sRet (eAnd (eUn (oIsA .str) (eBin oIx (eVar 0) (eC (.int 0)))) (eBin oEq (eBin oIx (eVar 0) (eC (.int 0))) (eVar 1)))))

def mb_is_word_pair : MS :=
  (sRet (eCall F_is_worded (aCons (eVar 0) (aCons (eVar 1) (aCons (eC (.int 2)) aNil)))))

def mb_is_places : MS :=
  (sSeq (sIf (DL.tOr (DL.tNot (tVal (eUn (oIsA .tuple) (eVar 0)))) (tVal (eBin oEq (eCall fLen (aCons (eVar 0) aNil)) (eC (.int 0))))) (sRet (eC (.bl false))) sNop)
    (sRet (eCall F_is_places_or_none (aCons (eVar 0) (aCons (eVar 1) aNil)))))

def mb_is_places_or_none : MS :=
  (sSeq (sIf (DL.tNot (tVal (eUn (oIsA .tuple) (eVar 0)))) (sRet (eC (.bl false))) sNop)
    (sSeq (sIf (DL.tNot (tVal (eAllG (iSeq (eVar 0)) (DL.gName 2) tNone (eCall F_is_within (aCons (eVar 2) (aCons (eC (.int 0)) (aCons (eBin oSub (eVar 1) (eC (.int 1))) aNil)))) [2]))) (sRet (eC (.bl false))) sNop)
    (sRet (eCall F_is_ascending (aCons (eVar 0) aNil)))))

def mb_is_ascending : MS :=
  (sRet (eAllG (iRange1 (eBin oSub (eCall fLen (aCons (eVar 0) aNil)) (eC (.int 1)))) (DL.gName 1) tNone (eBin oLt (eBin oIx (eVar 0) (eVar 1)) (eBin oIx (eVar 0) (eBin oAdd (eVar 1) (eC (.int 1))))) [1]))

def mb_is_ranking : MS :=
  (sSeq (sIf (DL.tNot (tVal (eCall F_is_integers (aCons (eVar 1) (aCons (eVar 0) (aCons (eC (.int 0)) (aCons (eBin oSub (eVar 0) (eC (.int 1))) aNil))))))) (sRet (eC (.bl false))) sNop)
    (sRet (eBin oEq (eCall fSorted (aCons (eVar 1) aNil)) (eFr (fListR1 (eVar 0))))))

def mb_meets_all : MS :=
  (sRet (eAllG (iSeq (eVar 1)) (DL.gName 2) tNone (eCall F_meets (aCons (eVar 0) (aCons (eVar 2) aNil))) [2]))

def mb_is_hopeless : MS :=
  (sRet (eAnd (eBin oIn (eUn oNeg (eC (.int 1))) (eVar 0)) (eBin oNotIn (eC (.int 1)) (eVar 0))))

def mb_is_clash : MS :=
  (sRet (eCall F_is_hopeless (aCons (eCall F_fused (aCons (eVar 0) (aCons (eFr (fLc (iSeq (eVar 2)) (DL.gName 3) tNone (eBin oIx (eVar 1) (eVar 3)) [3])) aNil))) aNil)))

def mb_check_ranking_paper : MS :=
  (sSeq (sIf (tVal (eCall F_is_word_pair (aCons (eVar 2) (aCons (eC (.str "ranking")) aNil)))) (sRet (eAnd (eCall F_is_ranking (aCons (eVar 0) (aCons (eBin oIx (eVar 2) (eC (.int 1))) aNil))) (eCall F_meets_all (aCons (eBin oIx (eVar 2) (eC (.int 1))) (aCons (eVar 1) aNil))))) sNop)
    (sSeq (sIf (tVal (eCall F_is_word_pair (aCons (eVar 2) (aCons (eC (.str "clash")) aNil)))) (sRet (eAnd (eCall F_is_places (aCons (eBin oIx (eVar 2) (eC (.int 1))) (aCons (eCall fLen (aCons (eVar 1) aNil)) aNil))) (eCall F_is_clash (aCons (eVar 0) (aCons (eVar 1) (aCons (eBin oIx (eVar 2) (eC (.int 1))) aNil)))))) sNop)
    (sRet (eC (.bl false)))))

def mb__law_is_ranking : MS :=
  (sSeq (sIf (DL.tOr (DL.tNot (tVal (eUn (oIsA .tuple) (eVar 1)))) (tVal (eBin oNe (eCall fLen (aCons (eVar 1) aNil)) (eVar 0)))) (sRet (eC (.bl false))) sNop)
    (sSeq (sIf (tVal (eBin oGt (eCall fLen (aCons (eFr (fLc (iSeq (eVar 1)) (DL.gName 2) (DL.tNot (tVal (eCall F__law_is_integer (aCons (eVar 2) aNil)))) (eVar 2) [2])) aNil)) (eC (.int 0)))) (sRet (eC (.bl false))) sNop)
    (sRet (eBin oEq (eCall fSorted (aCons (eVar 1) aNil)) (eFr (fListR1 (eVar 0)))))))

def mb__law_is_places : MS :=
  (sSeq (sIf (DL.tOr (DL.tNot (tVal (eUn (oIsA .tuple) (eVar 0)))) (tVal (eBin oLt (eCall fLen (aCons (eVar 0) aNil)) (eVar 2)))) (sRet (eC (.bl false))) sNop)
    (sSeq (sIf (tVal (eBin oGt (eCall fLen (aCons (eFr (fLc (iSeq (eVar 0)) (DL.gName 3) (DL.tOr (DL.tNot (tVal (eCall F__law_is_integer (aCons (eVar 3) aNil)))) (DL.tOr (tVal (eBin oLt (eVar 3) (eC (.int 0)))) (tVal (eBin oGe (eVar 3) (eVar 1))))) (eVar 3) [3])) aNil)) (eC (.int 0)))) (sRet (eC (.bl false))) sNop)
    (sRet (eBin oEq (eCall fLen (aCons (eFr (fLc (iRange1 (eBin oSub (eCall fLen (aCons (eVar 0) aNil)) (eC (.int 1)))) (DL.gName 4) (tVal (eBin oGe (eBin oIx (eVar 0) (eVar 4)) (eBin oIx (eVar 0) (eBin oAdd (eVar 4) (eC (.int 1)))))) (eVar 4) [4])) aNil)) (eC (.int 0))))))

def mb__law_is_worded : MS :=
  (sSeq (sIf (DL.tOr (DL.tNot (tVal (eUn (oIsA .tuple) (eVar 0)))) (tVal (eBin oNe (eCall fLen (aCons (eVar 0) aNil)) (eVar 2)))) (sRet (eC (.bl false))) sNop)
    (sRet (eAnd (eUn (oIsA .str) (eBin oIx (eVar 0) (eC (.int 0)))) (eBin oEq (eBin oIx (eVar 0) (eC (.int 0))) (eVar 1)))))

def mb__law_is_clash : MS :=
  (sSeq (sIf (DL.tNot (tVal (eCall F__law_is_places (aCons (eVar 2) (aCons (eCall fLen (aCons (eVar 1) aNil)) (aCons (eC (.int 1)) aNil)))))) (sRet (eC (.bl false))) sNop)
    (sRet (eCall F__law_hopeless (aCons (eCall F__law_fused (aCons (eVar 0) (aCons (eFr (fLc (iSeq (eVar 2)) (DL.gName 3) tNone (eBin oIx (eVar 1) (eVar 3)) [3])) aNil))) aNil))))

def mb__law_is_ranking_paper : MS :=
  (sSeq (sIf (tVal (eCall F__law_is_worded (aCons (eVar 2) (aCons (eC (.str "ranking")) (aCons (eC (.int 2)) aNil))))) (sRet (eAnd (eCall F__law_is_ranking (aCons (eVar 0) (aCons (eBin oIx (eVar 2) (eC (.int 1))) aNil))) (eCall F__law_meets_all (aCons (eBin oIx (eVar 2) (eC (.int 1))) (aCons (eVar 1) aNil))))) sNop)
    (sRet (eAnd (eCall F__law_is_worded (aCons (eVar 2) (aCons (eC (.str "clash")) (aCons (eC (.int 2)) aNil)))) (eCall F__law_is_clash (aCons (eVar 0) (aCons (eVar 1) (aCons (eBin oIx (eVar 2) (eC (.int 1))) aNil)))))))

theorem plainLN (c : List Nat) : plain DP (.lst (c.map dN)) = true := by
  have := plainL (c.map fun k : Nat => (k : Int))
  rw [List.map_map] at this
  exact this
theorem peq_lint (a : List Int) (r : List Nat) : peq (.lst (a.map D.int)) (.lst (r.map dN)) = decide (a = r.map fun k : Nat => (k : Int)) := by
  have e : r.map dN = (r.map fun k : Nat => (k : Int)).map D.int := by rw [List.map_map]; rfl
  rw [e]
  simp only [peq]; exact peqs_ints _ _
theorem hF_is_ranking : ∀ ds Q, F_is_ranking ds Q → ds.length = 2 ∧ mb_is_ranking { nx := fun _ => Q .non, rt := Q } (dstart 2 ds) := by
  rintro ds Q ⟨n, d, rfl, hd, hn, hP⟩
  refine ⟨rfl, ?_⟩
  simp [mb_is_ranking, dstart]
  refine ⟨d, n, 0, (n : Int) - 1, rfl, hd, ?_⟩
  cases hi : isInts n 0 ((n : Int) - 1) d with
  | false =>
    have : ¬ RankP n d := fun h => by
      obtain ⟨r, rfl, hr⟩ := id h
      obtain ⟨h1, h2⟩ := rank_len h
      have : isInts n 0 ((n : Int) - 1) (tN r) = true := by
        simp only [isInts, Bool.and_eq_true, decide_eq_true_eq]
        refine ⟨h1, List.all_eq_true.mpr fun x hx => ?_⟩
        obtain ⟨k, hk, rfl⟩ := h2 x hx
        simp [isIn]; omega
      rw [this] at hi; cases hi
    rw [pb_no this] at hP
    simpa using hP
  | true =>
    cases d with
    | tup xs =>
      simp only [isInts, Bool.and_eq_true, decide_eq_true_eq] at hi
      obtain ⟨ns, rfl⟩ := allInts (xs := xs) fun x hx => isIn_int (List.all_eq_true.mp hi.2 x hx)
      simp
      refine ⟨ns, .inl rfl, fun ns' h1 h2 => ?_⟩
      rw [ints0]
      simp [plainLN, peq_lint]
      refine ⟨by omega, ?_⟩
      rw [pb_of (b := decide (ns' = (List.range n).map fun k : Nat => (k : Int))) (by rw [decide_eq_true_iff]; exact sorted_rank h1 h2)] at hP
      exact hP
    | _ => simp [isInts] at hi
theorem hF__law_is_ranking : ∀ ds Q, F__law_is_ranking ds Q → ds.length = 2 ∧ mb__law_is_ranking { nx := fun _ => Q .non, rt := Q } (dstart 3 ds) := by
  rintro ds Q ⟨n, d, rfl, hd, hn, hP⟩
  refine ⟨rfl, ?_⟩
  cases d with
  | tup xs =>
    obtain ⟨h1, h2⟩ := hd
    simp [mb__law_is_ranking, dstart]
    by_cases hl : (xs.length : Int) = (n : Int)
    · rw [if_pos hl]
      refine ⟨by omega, lc_filterD (fun d => !isInt d) (fun d hdm Kk Kn hL => ?_) _ ?_⟩
      · simp
        exact ⟨d, rfl, h2 d hdm, by simpa using hL⟩
      · rw [List.nil_append]
        by_cases ha : xs.all isInt = true
        · have e1 : (xs.filter fun d => !isInt d) = [] := by
            rw [List.filter_eq_nil_iff]; intro d hd; simp [List.all_eq_true.mp ha d hd]
          rw [e1]
          obtain ⟨ns, rfl⟩ := allInts (xs := xs) fun x hx => by
            have := List.all_eq_true.mp ha x hx
            cases x <;> first | exact ⟨_, rfl⟩ | (simp [isInt] at this)
          simp
          refine ⟨ns, .inl rfl, fun ns' h1 h2 => ?_⟩
          rw [ints0]
          simp [plainLN, peq_lint]
          refine ⟨by omega, ?_⟩
          rw [pb_of (b := decide (ns' = (List.range n).map fun k : Nat => (k : Int))) (by rw [decide_eq_true_iff]; exact sorted_rank h1 h2)] at hP
          exact hP
        · have : 0 < (xs.filter fun d => !isInt d).length := by
            rcases Nat.eq_zero_or_pos (xs.filter fun d => !isInt d).length with z | z
            · refine absurd (List.all_eq_true.mpr fun x hx => ?_) ha
              have := List.filter_eq_nil_iff.mp (List.eq_nil_of_length_eq_zero z) x hx
              simpa using this
            · exact z
          rw [if_pos (by omega)]
          rw [pb_no fun h => ha (List.all_eq_true.mpr fun x hx => by obtain ⟨k, _, rfl⟩ := (rank_len h).2 x hx; rfl)] at hP
          exact hP
    · rw [if_neg hl]
      rw [pb_no fun h => hl (by rw [(rank_len h).1])] at hP
      exact hP
  | _ => first
    | (simp [okE, okD] at hd; done)
    | (rw [pb_no (by rintro ⟨r, e, _⟩; cases e)] at hP
       simpa [mb__law_is_ranking, dstart] using hP)
theorem at_dN {pl : List Nat} {k : Nat} (h : k < pl.length) : atI (pl.map dN) (k : Int) = some (dN (pl.getD k 0)) := by
  rw [atI_nat, List.getElem?_map, List.getElem?_eq_getElem h]; simp [List.getD_eq_getElem?_getD, h]
theorem at_dN1 {pl : List Nat} {k : Nat} (h : k + 1 < pl.length) : atI (pl.map dN) ((k : Int) + 1) = some (dN (pl.getD (k + 1) 0)) := by
  have := at_dN (pl := pl) (k := k + 1) h
  rw [show (((k + 1 : Nat) : Int)) = (k : Int) + 1 by omega] at this
  exact this
theorem toNat_pred (n : Nat) : ((n : Int) - 1).toNat = n - 1 := by omega
theorem at_pairs {ps : List (Nat × Nat)} {k : Nat} (h : k < ps.length) : atI (ps.map pairD) (k : Int) = some (pairD (ps.getD k (0, 0))) := by
  rw [atI_nat, List.getElem?_map, List.getElem?_eq_getElem h]
  simp [List.getD_eq_getElem?_getD, h]
theorem hF_is_ascending : ∀ ds Q, F_is_ascending ds Q → ds.length = 1 ∧ mb_is_ascending { nx := fun _ => Q .non, rt := Q } (dstart 2 ds) := by
  rintro ds Q (⟨pl, rfl, hl, hP⟩ | ⟨ps, rfl, hl, hP⟩)
  · refine ⟨rfl, ?_⟩
    simp [mb_is_ascending, dstart, toNat_pred]
    rw [ints0]
    have e : asc pl = ((List.range (pl.length - 1)).map dN).all fun d => match d with | .int i => decide (pl.getD i.toNat 0 < pl.getD (i.toNat + 1) 0) | _ => false := by
      simp [asc, List.all_map, Function.comp_def]
    rw [e] at hP
    refine ⟨by omega, by omega, all_ind _ (fun d hd L hL => ?_) hP⟩
    obtain ⟨k, hk, rfl⟩ := List.mem_map.mp hd
    have hk := List.mem_range.mp hk
    simp only [genTurn, yAll]
    simp [at_dN (pl := pl) (k := k) (by omega), at_dN1 (pl := pl) (k := k) (by omega)] at hL ⊢
    exact hL
  · refine ⟨rfl, ?_⟩
    simp [mb_is_ascending, dstart, toNat_pred]
    rw [ints0]
    have e : ascP ps = ((List.range (ps.length - 1)).map dN).all fun d => match d with | .int i => pltB (ps.getD i.toNat (0, 0)) (ps.getD (i.toNat + 1) (0, 0)) | _ => false := by
      simp [ascP, List.all_map, Function.comp_def]
    rw [e] at hP
    refine ⟨by omega, by omega, all_ind _ (fun d hd L hL => ?_) hP⟩
    obtain ⟨k, hk, rfl⟩ := List.mem_map.mp hd
    have hk := List.mem_range.mp hk
    have a1 := at_pairs (ps := ps) (k := k) (by omega)
    have a2 := at_pairs (ps := ps) (k := k + 1) (by omega)
    rw [show (((k + 1 : Nat)) : Int) = (k : Int) + 1 by omega] at a2
    simp only [Int.toNat_natCast] at hL
    obtain ⟨p, hp⟩ : ∃ p, ps.getD k (0, 0) = p := ⟨_, rfl⟩
    obtain ⟨q, hq⟩ : ∃ q, ps.getD (k + 1) (0, 0) = q := ⟨_, rfl⟩
    simp only [hp, hq] at a1 a2 hL
    simp only [genTurn, yAll]
    simp [a1, a2]
    exact ⟨[(p.1 : Int), (p.2 : Int)], rfl, [(q.1 : Int), (q.2 : Int)], rfl, hL⟩
theorem natsOf : ∀ {xs : List D} {m : Nat}, xs.all (isIn 0 ((m : Int) - 1)) = true → ∃ pl : List Nat, xs = pl.map dN ∧ ∀ k ∈ pl, k < m
  | [], m, _ => ⟨[], rfl, by simp⟩
  | x :: xs, m, h => by
    rw [List.all_cons, Bool.and_eq_true] at h
    obtain ⟨i, rfl⟩ := isIn_int h.1
    have h1 := h.1
    simp [isIn] at h1
    obtain ⟨k, rfl⟩ := Int.eq_ofNat_of_zero_le h1.1
    obtain ⟨pl, rfl, hp⟩ := natsOf h.2
    refine ⟨k :: pl, rfl, fun y hy => ?_⟩
    rcases List.mem_cons.mp hy with rfl | hy
    · omega
    · exact hp y hy
theorem tN_inj {a b : List Nat} (h : a.map dN = b.map dN) : a = b := (List.map_inj_right (fun x y h => by injection h with h; omega)).mp h
theorem places_tN {m least : Nat} {pl : List Nat} (hm : ∀ k ∈ pl, k < m) : (asc pl = true ∧ least ≤ pl.length) ↔ PlacesP m least (tN pl) := by
  constructor
  · rintro ⟨h1, h2⟩; exact ⟨pl, rfl, h2, hm, h1⟩
  · rintro ⟨pl', e, h1, _, h2⟩
    have e : pl.map dN = pl'.map dN := by injection e
    rw [tN_inj e]; exact ⟨h2, h1⟩
theorem places_in {m least : Nat} {xs : List D} (h : PlacesP m least (.tup xs)) : xs.all (isIn 0 ((m : Int) - 1)) = true ∧ least ≤ xs.length := by
  obtain ⟨pl, e, h1, h2, _⟩ := h
  have e : xs = pl.map dN := by injection e
  subst e
  refine ⟨List.all_eq_true.mpr fun x hx => ?_, by simpa using h1⟩
  obtain ⟨k, hk, rfl⟩ := List.mem_map.mp hx
  have := h2 k hk
  simp [isIn]; omega
theorem hF_is_places_or_none : ∀ ds Q, F_is_places_or_none ds Q → ds.length = 2 ∧ mb_is_places_or_none { nx := fun _ => Q .non, rt := Q } (dstart 3 ds) := by
  rintro ds Q ⟨d, m, rfl, hd, hm, hP⟩
  refine ⟨rfl, ?_⟩
  cases d with
  | tup xs =>
    obtain ⟨h1, h2⟩ := hd
    simp [mb_is_places_or_none, dstart]
    refine all_ind (isIn 0 ((m : Int) - 1)) (fun d hdm L hL => ?_) ?_
    · simp [genTurn, yAll]
      exact ⟨d, 0, (m : Int) - 1, rfl, h2 d hdm, by simpa using hL⟩
    · cases ha : xs.all (isIn 0 ((m : Int) - 1)) with
      | false =>
        rw [pb_no fun h => by rw [(places_in h).1] at ha; cases ha] at hP
        simpa using hP
      | true =>
        obtain ⟨pl, rfl, hp⟩ := natsOf ha
        simp
        refine .inl ⟨pl, rfl, by simpa using h1, ?_⟩
        rw [pb_of (b := asc pl) (by rw [← places_tN hp]; simp)] at hP
        exact hP
  | _ => first
    | (simp [okE, okD] at hd; done)
    | (rw [pb_no (by rintro ⟨r, e, _⟩; cases e)] at hP
       simpa [mb_is_places_or_none, dstart] using hP)
theorem hF_is_places : ∀ ds Q, F_is_places ds Q → ds.length = 2 ∧ mb_is_places { nx := fun _ => Q .non, rt := Q } (dstart 2 ds) := by
  rintro ds Q ⟨d, m, rfl, hd, hm, hP⟩
  refine ⟨rfl, ?_⟩
  cases d with
  | tup xs =>
    simp [mb_is_places, dstart]
    by_cases h0 : xs.length = 0
    · have : xs = [] := List.eq_nil_of_length_eq_zero h0
      subst this
      rw [pb_no fun h => by have := (places_in h).2; simp at this] at hP
      simpa using hP
    · have hx : ¬ (xs = []) := fun e => h0 (by rw [e]; rfl)
      simp [hx]
      refine ⟨.tup xs, m, rfl, hd, hm, ?_⟩
      have e : PlacesP m 1 (.tup xs) ↔ PlacesP m 0 (.tup xs) := ⟨fun ⟨pl, e, _, r⟩ => ⟨pl, e, Nat.zero_le _, r⟩, fun ⟨pl, e, _, r⟩ => ⟨pl, e, by
        have e : xs = pl.map dN := by injection e
        rw [e] at h0; simp at h0
        have := List.length_pos_iff.mpr h0; omega, r⟩⟩
      rw [show pb (PlacesP m 1 (.tup xs)) = pb (PlacesP m 0 (.tup xs)) by rw [Bool.eq_iff_iff, pb_iff, pb_iff]; exact e] at hP
      exact hP
  | _ => first
    | (simp [okE, okD] at hd; done)
    | (rw [pb_no (by rintro ⟨r, e, _⟩; cases e)] at hP
       simpa [mb_is_places, dstart] using hP)
theorem hF__law_is_places : ∀ ds Q, F__law_is_places ds Q → ds.length = 3 ∧ mb__law_is_places { nx := fun _ => Q .non, rt := Q } (dstart 5 ds) := by
  rintro ds Q ⟨d, m, least, rfl, hd, hm, hP⟩
  refine ⟨rfl, ?_⟩
  cases d with
  | tup xs =>
    obtain ⟨h1, h2⟩ := hd
    simp [mb__law_is_places, dstart, toNat_pred]
    by_cases h0 : xs.length < least
    · rw [if_pos h0]
      rw [pb_no fun h => by have := (places_in h).2; omega] at hP
      exact hP
    · rw [if_neg h0]
      refine ⟨by omega, lc_filterD (fun d => !isIn 0 ((m : Int) - 1) d) (fun d hdm Kk Kn hL => ?_) _ ?_⟩
      · simp
        refine ⟨d, rfl, h2 d hdm, ?_⟩
        cases d with
        | int i =>
          simp [isInt, isIn] at hL ⊢
          by_cases a1 : i < 0
          · have : ¬ (0 ≤ i) := by omega
            simp [a1, this] at hL ⊢
            exact hL
          · by_cases a2 : (m : Int) ≤ i
            · have : ¬ (i ≤ (m : Int) - 1) := by omega
              have a3 : 0 ≤ i := by omega
              simp [a1, a2, a3] at hL ⊢
              rw [if_pos (by omega)] at hL
              exact hL
            · have a3 : 0 ≤ i := by omega
              simp [a1, a2, a3] at hL ⊢
              rw [if_neg (by omega)] at hL
              exact hL
        | _ => simpa [isInt, isIn] using hL
      · rw [List.nil_append]
        by_cases ha : xs.all (isIn 0 ((m : Int) - 1)) = true
        · have e1 : (xs.filter fun d => !isIn 0 ((m : Int) - 1) d) = [] := by
            rw [List.filter_eq_nil_iff]; intro d hd; simp [List.all_eq_true.mp ha d hd]
          rw [e1]
          obtain ⟨pl, rfl, hp⟩ := natsOf ha
          simp
          rw [ints0]
          simp at h1 h0
          refine ⟨by omega, by omega, by simp; omega, lc_filter dN (fun k => !decide (pl.getD k 0 < pl.getD (k + 1) 0)) (fun k hk Kk Kn hL => ?_) _ ?_⟩
          · have hk := List.mem_range.mp hk
            simp [at_dN (pl := pl) (k := k) (by omega), at_dN1 (pl := pl) (k := k) (by omega)] at hL ⊢
            exact hL
          · have e : ((((List.range (pl.length - 1)).filter fun k => !decide (pl.getD k 0 < pl.getD (k + 1) 0)).length : Int) == 0) = asc pl := by
              rw [Bool.eq_iff_iff]; simp [asc]
            rw [pb_of (b := asc pl) (by rw [← places_tN hp]; simp; omega)] at hP
            simp only [List.nil_append, List.length_map]
            rw [e]
            exact hP
        · have : 0 < (xs.filter fun d => !isIn 0 ((m : Int) - 1) d).length := by
            rcases Nat.eq_zero_or_pos (xs.filter fun d => !isIn 0 ((m : Int) - 1) d).length with z | z
            · refine absurd (List.all_eq_true.mpr fun x hx => ?_) ha
              have := List.filter_eq_nil_iff.mp (List.eq_nil_of_length_eq_zero z) x hx
              simpa using this
            · exact z
          rw [if_pos (by omega)]
          rw [pb_no fun h => ha (places_in h).1] at hP
          exact hP
  | _ => first
    | (simp [okE, okD] at hd; done)
    | (rw [pb_no (by rintro ⟨r, e, _⟩; cases e)] at hP
       simpa [mb__law_is_places, dstart] using hP)
theorem peq_str (a b : Str) : peq (.str a) (.str b) = (a == b) := by simp [peq]
theorem hF_is_worded : ∀ ds Q, F_is_worded ds Q → ds.length = 3 ∧ mb_is_worded { nx := fun _ => Q .non, rt := Q } (dstart 3 ds) := by
  rintro ds Q ⟨d, w, l, rfl, hd, hw, h0, hP⟩
  refine ⟨rfl, ?_⟩
  cases d with
  | tup xs =>
    obtain ⟨h1, h2⟩ := deepS_tup hd
    simp [mb_is_worded, dstart]
    by_cases hl : (xs.length : Int) = (l : Int)
    · rw [if_pos hl]
      cases xs with
      | nil => simp at hl; omega
      | cons x xs =>
        have hx := h2 x (List.mem_cons_self ..)
        have e0 : atI (x :: xs) 0 = some x := by simp [atI, ixN]
        simp [e0]
        cases x with
        | str s =>
          have hl' : xs.length + 1 = l := by simp at hl; omega
          simp only [deepS] at hx hw
          simp [plain] at hx hw ⊢
          refine ⟨hx, hw, ?_⟩
          simpa [isW, hl', peq_str] using hP
        | _ => first
          | (simp [deepS] at hx; done)
          | (simpa [isW] using hP)
    · rw [if_neg hl]
      have : isW w l (.tup xs) = false := by
        cases xs with
        | nil => rfl
        | cons x xs =>
          cases x with
          | str s =>
            have : ¬ (xs.length + 1 = l) := by simp at hl; omega
            simp [isW, this]
          | _ => rfl
      rw [this] at hP
      exact hP
  | _ => first
    | (simp [deepS] at hd; done)
    | (simpa [mb_is_worded, dstart, isW] using hP)
theorem hF__law_is_worded : ∀ ds Q, F__law_is_worded ds Q → ds.length = 3 ∧ mb__law_is_worded { nx := fun _ => Q .non, rt := Q } (dstart 3 ds) := hF_is_worded
theorem hF_is_word_pair : ∀ ds Q, F_is_word_pair ds Q → ds.length = 2 ∧ mb_is_word_pair { nx := fun _ => Q .non, rt := Q } (dstart 2 ds) := by
  rintro ds Q ⟨d, w, rfl, hd, hw, hP⟩
  refine ⟨rfl, ?_⟩
  simp [mb_is_word_pair, dstart]
  exact ⟨d, w, 2, rfl, hd, hw, by omega, hP⟩
theorem hF_meets_all : ∀ ds Q, F_meets_all ds Q → ds.length = 2 ∧ mb_meets_all { nx := fun _ => Q .non, rt := Q } (dstart 3 ds) := by
  rintro ds Q ⟨r, rows, rfl, hr, hl, hP⟩
  refine ⟨rfl, ?_⟩
  simp [mb_meets_all, dstart]
  have e : rows.all (meets r) = (rows.map tI).all fun d => match d with | .tup xs => meets r (xs.map fun x => match x with | .int i => i | _ => 0) | _ => false := by
    simp [List.all_map, Function.comp_def]
  rw [e] at hP
  refine all_ind _ (fun d hd L hL => ?_) hP
  obtain ⟨c, hc, rfl⟩ := List.mem_map.mp hd
  simp [genTurn, yAll]
  refine ⟨r, c, rfl, hr c hc, ?_⟩
  simpa [Function.comp_def] using hL
theorem hF_is_hopeless : ∀ ds Q, F_is_hopeless ds Q → ds.length = 1 ∧ mb_is_hopeless { nx := fun _ => Q .non, rt := Q } (dstart 1 ds) := hF__law_hopeless
theorem picked_lc {n : Nat} {rows : List (List Int)} {pl : List Nat} (hc : ∀ c ∈ rows, c.length = n) (hp : ∀ k ∈ pl, k < rows.length) : ∀ c ∈ picked rows pl, c.length = n := fun c h => by
  obtain ⟨k, hk, rfl⟩ := List.mem_map.mp h
  have := hp k hk
  refine hc _ ?_
  simp [List.getD_eq_getElem?_getD, this]
theorem hF_is_clash : ∀ ds Q, F_is_clash ds Q → ds.length = 3 ∧ mb_is_clash { nx := fun _ => Q .non, rt := Q } (dstart 4 ds) := by
  rintro ds Q ⟨n, rows, pl, hds, hn, hl, hpl, hc, hp, hP⟩
  rcases hds with rfl | rfl
  all_goals
    refine ⟨rfl, ?_⟩
    simp [mb_is_clash, dstart]
    refine ⟨by omega, lc_filterMap dN (fun k => tI (rows.getD k [])) (fun _ => true) (fun k hk Kk Kn h => ?_) _ ?_⟩
    · have := hp k hk
      have hx : atI (rows.map tI) (k : Int) = some (tI (rows.getD k [])) := by
        rw [atI_lI this]; simp [List.getD_eq_getElem?_getD, this]
      simp [hx] at h ⊢
      exact h
    · rw [List.filter_eq_self.mpr (fun _ _ => rfl), List.nil_append]
      refine ⟨n, picked rows pl, by simp [picked, Function.comp_def], hn, by simpa [picked] using hpl, picked_lc hc hp, ?_⟩
      exact ⟨_, rfl, hP⟩
theorem hF__law_is_clash : ∀ ds Q, F__law_is_clash ds Q → ds.length = 3 ∧ mb__law_is_clash { nx := fun _ => Q .non, rt := Q } (dstart 4 ds) := by
  rintro ds Q ⟨n, rows, d, rfl, hn, hl, hc, hd, hP⟩
  refine ⟨rfl, ?_⟩
  simp [mb__law_is_clash, dstart]
  refine ⟨d, rows.length, 1, rfl, hd, hl, ?_⟩
  by_cases h : PlacesP rows.length 1 d
  · rw [pb_yes h]
    obtain ⟨pl, rfl, h1, h2, h3⟩ := h
    have hpl : pl.length ≤ 1000 := by simpa [okE] using hd.1
    simp
    refine ⟨by omega, lc_filterMap dN (fun k => tI (rows.getD k [])) (fun _ => true) (fun k hk Kk Kn h => ?_) _ ?_⟩
    · have := h2 k hk
      have hx : atI (rows.map tI) (k : Int) = some (tI (rows.getD k [])) := by
        rw [atI_lI this]; simp [List.getD_eq_getElem?_getD, this]
      simp [hx] at h ⊢
      exact h
    · rw [List.filter_eq_self.mpr (fun _ _ => rfl), List.nil_append]
      refine ⟨n, picked rows pl, by simp [picked, Function.comp_def], hn, by simpa [picked] using hpl, picked_lc hc h2, ?_⟩
      refine ⟨_, rfl, ?_⟩
      rw [pb_of (b := hop (fusion n (picked rows pl))) ⟨fun z => ⟨pl, rfl, h1, h2, h3, z⟩, fun ⟨pl', e, _, _, _, z⟩ => by
        have e : pl.map dN = pl'.map dN := by injection e
        rw [tN_inj e]; exact z⟩] at hP
      exact hP
  · rw [pb_no h]
    rw [pb_no fun ⟨pl, e, h1, h2, h3, _⟩ => h ⟨pl, e, h1, h2, h3⟩] at hP
    simpa using hP
theorem strOf_ranking : deepS (.str "ranking") = true := by decide +kernel
theorem strOf_clash : deepS (.str "clash") = true := by decide +kernel
theorem perm_lt {n : Nat} {r : List Nat} (hr : r.Perm (List.range n)) : ∀ x ∈ r, x < n := fun x hx => List.mem_range.mp (hr.mem_iff.mp hx)
theorem RP_ranking {n : Nat} {rows : List (List Int)} {v : D} : RP n rows (.tup [.str "ranking", v]) ↔ ∃ r : List Nat, v = tN r ∧ r.Perm (List.range n) ∧ rows.all (meets r) = true := by
  constructor
  · rintro (⟨r, e, h⟩ | ⟨v', e, h⟩)
    · injection e with e; injection e with _ e; injection e with e
      exact ⟨r, e, h⟩
    · injection e with e; injection e with e _; injection e with e
      exact absurd e (by decide)
  · rintro ⟨r, rfl, h⟩; exact .inl ⟨r, rfl, h⟩
theorem RP_clash {n : Nat} {rows : List (List Int)} {v : D} : RP n rows (.tup [.str "clash", v]) ↔ ClashP n rows v := by
  constructor
  · rintro (⟨r, e, h⟩ | ⟨v', e, h⟩)
    · injection e with e; injection e with e _; injection e with e
      exact absurd e (by decide)
    · injection e with e; injection e with _ e; injection e with e
      rw [e]; exact h
  · intro h; exact .inr ⟨v, rfl, h⟩
theorem isW_yes (w : Str) (v : D) : isW w 2 (.tup [.str w, v]) = true := by simp [isW]
theorem RP_no {n : Nat} {rows : List (List Int)} {d : D} (h1 : isW "ranking" 2 d = false) (h2 : isW "clash" 2 d = false) : ¬ RP n rows d := by
  rintro (⟨r, rfl, h⟩ | ⟨v', rfl, h⟩)
  · rw [isW_yes] at h1; cases h1
  · rw [isW_yes] at h2; cases h2
@[simp] theorem at2_1 (a b : D) : atI [a, b] 1 = some b := by simp [atI, ixN]
@[simp] theorem at2_0 (a b : D) : atI [a, b] 0 = some a := by simp [atI, ixN]
theorem hF_check_ranking_paper : ∀ ds Q, F_check_ranking_paper ds Q → ds.length = 3 ∧ mb_check_ranking_paper { nx := fun _ => Q .non, rt := Q } (dstart 3 ds) := by
  rintro ds Q ⟨n, rows, d, rfl, hn, hl, hc, hd, hP⟩
  refine ⟨rfl, ?_⟩
  simp [mb_check_ranking_paper, dstart]
  refine ⟨d, _, rfl, hd, strOf_ranking, ?_⟩
  cases h1 : isW "ranking" 2 d with
  | true =>
    obtain ⟨v, rfl⟩ := isW_pair h1
    have hv := (deepS_tup hd).2 v (by simp)
    rw [pb_congr RP_ranking] at hP
    simp
    refine ⟨n, v, rfl, deepS_okE hv, hn, ?_⟩
    by_cases h : RankP n v
    · rw [pb_yes h]
      obtain ⟨r, rfl, hr⟩ := h
      simp
      refine ⟨r, rows, rfl, fun c hcm x hx => by rw [hc c hcm]; exact perm_lt hr x hx, hl, ?_⟩
      rw [pb_of (b := rows.all (meets r)) ⟨fun z => ⟨r, rfl, hr, z⟩, fun ⟨r', e, _, z⟩ => by
        have e : r.map dN = r'.map dN := by injection e
        rw [tN_inj e]; exact z⟩] at hP
      exact hP
    · rw [pb_no h]
      rw [pb_no fun ⟨r, e, hr, _⟩ => h ⟨r, e, hr⟩] at hP
      simpa using hP
  | false =>
    simp
    refine ⟨d, _, rfl, hd, strOf_clash, ?_⟩
    cases h2 : isW "clash" 2 d with
    | false =>
      rw [pb_no (RP_no h1 h2)] at hP
      simpa using hP
    | true =>
      obtain ⟨v, rfl⟩ := isW_pair h2
      have hv := (deepS_tup hd).2 v (by simp)
      rw [pb_congr RP_clash] at hP
      simp
      refine ⟨v, rows.length, rfl, deepS_okE hv, hl, ?_⟩
      by_cases h : PlacesP rows.length 1 v
      · rw [pb_yes h]
        obtain ⟨pl, rfl, a1, a2, a3⟩ := h
        simp
        refine ⟨n, rows, pl, .inl rfl, hn, hl, by simpa using (deepS_tup hv).1, hc, a2, ?_⟩
        rw [pb_of (b := hop (fusion n (picked rows pl))) ⟨fun z => ⟨pl, rfl, a1, a2, a3, z⟩, fun ⟨pl', e, _, _, _, z⟩ => by
          have e : pl.map dN = pl'.map dN := by injection e
          rw [tN_inj e]; exact z⟩] at hP
        exact hP
      · rw [pb_no h]
        rw [pb_no fun ⟨pl, e, b1, b2, b3, _⟩ => h ⟨pl, e, b1, b2, b3⟩] at hP
        simpa using hP
theorem hF__law_is_ranking_paper : ∀ ds Q, F__law_is_ranking_paper ds Q → ds.length = 3 ∧ mb__law_is_ranking_paper { nx := fun _ => Q .non, rt := Q } (dstart 3 ds) := by
  rintro ds Q ⟨n, rows, d, rfl, hn, hl, hc, hd, hP⟩
  refine ⟨rfl, ?_⟩
  simp [mb__law_is_ranking_paper, dstart]
  refine ⟨d, _, 2, rfl, hd, strOf_ranking, by omega, ?_⟩
  cases h1 : isW "ranking" 2 d with
  | true =>
    obtain ⟨v, rfl⟩ := isW_pair h1
    have hv := (deepS_tup hd).2 v (by simp)
    rw [pb_congr RP_ranking] at hP
    simp
    refine ⟨n, v, rfl, deepS_okE hv, hn, ?_⟩
    by_cases h : RankP n v
    · rw [pb_yes h]
      obtain ⟨r, rfl, hr⟩ := h
      simp
      refine ⟨r, rows, rfl, fun c hcm x hx => by rw [hc c hcm]; exact perm_lt hr x hx, hl, ?_⟩
      rw [pb_of (b := rows.all (meets r)) ⟨fun z => ⟨r, rfl, hr, z⟩, fun ⟨r', e, _, z⟩ => by
        have e : r.map dN = r'.map dN := by injection e
        rw [tN_inj e]; exact z⟩] at hP
      exact hP
    · rw [pb_no h]
      rw [pb_no fun ⟨r, e, hr, _⟩ => h ⟨r, e, hr⟩] at hP
      simpa using hP
  | false =>
    simp
    refine ⟨d, _, 2, rfl, hd, strOf_clash, by omega, ?_⟩
    cases h2 : isW "clash" 2 d with
    | false =>
      rw [pb_no (RP_no h1 h2)] at hP
      simpa using hP
    | true =>
      obtain ⟨v, rfl⟩ := isW_pair h2
      have hv := (deepS_tup hd).2 v (by simp)
      rw [pb_congr RP_clash] at hP
      simp
      exact ⟨n, rows, v, rfl, hn, hl, hc, deepS_okE hv, hP⟩
end DL

set_option Elab.async false
set_option linter.all false
set_option autoImplicit false
set_option maxRecDepth 100000
set_option maxHeartbeats 1000000
/-! DT: tuple(e for x in xs for y in ys). -/
namespace GX
open PySem PySem.Spec PyProof.Rows L2 GenW
theorem turn2_out (elt t0 i0 t1 i1 : Expr) (ifs0 ifs1 : List Expr) (scope : Scope) (pos : Pos) (it acc : Value) (env : Env) :
    compTurn (.GeneratorExp elt [⟨t0, i0, ifs0, 0⟩, ⟨t1, i1, ifs1, 0⟩] scope pos) 0 it acc env = (do
      standAt i0.pos
      match ← pyNext it with
      | none => pure (.done .next)
      | some v =>
        letOwnedTupleGo t0 it v
        assign t0 env v
        let mut ok := true
        for c in ifs0 do
          if ok then ok ← isTrue c env (eval c env)
        if ok then
          let x ← eval i1 env
          standAt i1.pos
          let x ← foldedSetIterable i1 env x
          let _ ← runOwn (.compStart (.GeneratorExp elt [⟨t0, i0, ifs0, 0⟩, ⟨t1, i1, ifs1, 0⟩] scope pos) 1 (← holding [x] (pyIter x)) acc env) env
        again (.compLoop (.GeneratorExp elt [⟨t0, i0, ifs0, 0⟩, ⟨t1, i1, ifs1, 0⟩] scope pos) 0 it acc env)) := by rfl
theorem turn2_in (elt t0 i0 t1 i1 : Expr) (ifs0 ifs1 : List Expr) (scope : Scope) (pos : Pos) (it acc : Value) (env : Env) :
    compTurn (.GeneratorExp elt [⟨t0, i0, ifs0, 0⟩, ⟨t1, i1, ifs1, 0⟩] scope pos) 1 it acc env = (do
      standAt i1.pos
      match ← pyNext it with
      | none => pure (.done .next)
      | some v =>
        letOwnedTupleGo t1 it v
        assign t1 env v
        let mut ok := true
        for c in ifs1 do
          if ok then ok ← isTrue c env (eval c env)
        if ok then
          (do let v ← eval elt env; standAt elt.pos; let _ ← yieldOut env v)
        again (.compLoop (.GeneratorExp elt [⟨t0, i0, ifs0, 0⟩, ⟨t1, i1, ifs1, 0⟩] scope pos) 1 it acc env)) := by rfl

/-! ### what a consumer knows, whatever the generator keeps -/
section
variable {ι : Type} {G : Cx} {pins : List (Addr × Obj)} {σ : L2.St} {AW : ι → Hp → Shared → Prop} {W : ι → Nat → Hp → Prop} {End : Hp → Prop} {Yl : ι → Nat → V → Hp → Prop} {A : Around}
def YT (AW : ι → Hp → Shared → Prop) (W : ι → Nat → Hp → Prop) (Yl : ι → Nat → V → Hp → Prop) : Protocol := fun n s₀ v s kap =>
  ∃ x m y H, m ≤ n ∧ RelV y v ∧ AW x H s ∧ Yl x m y H ∧ ∀ s2 m2 H2, m2 < m → W x m2 H2 → AW x H2 s2 → kap (.send .none) s2
structure AwT (G : Cx) (pins : List (Addr × Obj)) (σ : L2.St) (AW : ι → Hp → Shared → Prop) : Prop where
  inv : ∀ x H s, AW x H s → Inv G pins σ H s
  gens : ∀ x H s g st, AW x H s → st.bare = true → AW x H (s.setGen g st)
  push : ∀ x H s S acc acc2 its n h2, AW x H s → H S = some (.lst acc) → (∀ b u, b ≠ S → s.heap.get? b = some u → h2.get? b = some u) →
    h2.get? S = some { cls := .type "list", data := .seq (List.toArray its) n } → Vals acc2 its → acc2.length ≤ sizeLine → AW x (upd H S (.lst acc2)) { s with heap := h2 }
  laid : ∀ x H s h2 n, AW x H s → (∀ b u, s.heap.get? b = some u → h2.get? b = some u) → h2.get? s.heap.objs.size = some { cls := .type "list", data := .seq ([] : List Value).toArray n } →
    AW x (upd H s.heap.objs.size (.lst [])) { s with heap := h2 }
/-- asleep -/
def SlT (G : Cx) (pins : List (Addr × Obj)) (σ : L2.St) (AW : ι → Hp → Shared → Prop) (W : ι → Nat → Hp → Prop) (End : Hp → Prop) (Yl : ι → Nat → V → Hp → Prop) (A : Around) (n : Nat) (x : ι) (B : Nat) (gs : GenState) : Prop :=
  ∀ s2 m2 H2, m2 < B → W x m2 H2 → AW x H2 s2 → gs.Goes (model G.prog G.w) A (fun n s₀ r s₁ => r = .ok .next ∧ GXE G pins σ End n s₀ s₁) (YT AW W Yl) n (.send .none) s2
theorem next_t (aok : AwT G pins σ AW) {E : Value → Shared → Prop} {a : Addr} {g : Nat} {gs : GenState} {n B m : Nat} {x : ι} {H : Hp} {s : Shared} {Q : Option Value → Shared → Prop} (hh : A.handled = none) (hroom : A.depth < recursionLimit)
    (hga : ∀ σ' H' s', Inv G pins σ' H' s' → s'.heap.IsGen a g) (hgs : s.gens[g]? = some gs) (hgo : SlT G pins σ AW W End Yl A.in1 n x B gs) (hm : m < B) (w : W x m H) (aw : AW x H s)
    (hY : ∀ v s₁ gs' x' m' y H1, s₁.gens[g]? = some gs' → RelV y v → AW x' H1 s₁ → Yl x' m' y H1 → (match n with
        | 0 => ∀ s2 m2 H2, m2 < m' → W x' m2 H2 → AW x' H2 s2 → False
        | n' + 1 => SlT G pins σ AW W End Yl A.in1 n' x' m' gs') → Q (some v) s₁)
    (hE : ∀ s₁ H1, Inv G pins σ H1 s₁ → End H1 → Q none s₁) : wpAny (model G.prog G.w) A (pyNext (.ref a)) Q E s := by
  have hgl : g < s.gens.size := (Array.getElem?_eq_some_iff.mp hgs).1
  refine wpAny_gsz (n := g + 1) hgl ?_
  have inv := aok.inv _ _ _ aw
  refine wpAny_pyNext_genexpQ (P := GXE G pins σ End) hh inv.nolimit hroom (hga _ _ _ inv) hgs (hgo _ m H hm w (aok.gens _ _ _ _ _ aw rfl)) (fun v s₁ gs' hb hv => ?_) (fun s₁ hp h' hk => ?_)
  · intro hsz
    obtain ⟨x', m', y, H1, hle, r, aw1, yl, kk⟩ := hv
    have hsz1 : g < s₁.gens.size := by
      have q : (s₁.setGen g gs').gens.size = s₁.gens.size := setGen_size _ _ _
      omega
    refine hY v _ gs' x' m' y H1 (setGen_at hsz1) r (aok.gens _ _ _ _ _ aw1 hb) yl ?_
    cases n with
    | zero => exact fun s2 m2 H2 h1 h2 h3 => kk s2 m2 H2 h1 h2 h3
    | succ n' => exact fun s2 m2 H2 h1 h2 h3 => kk s2 m2 H2 h1 h2 h3
  · intro _
    obtain ⟨H1, I1, e1⟩ := hp
    exact hE _ H1 (inv_gens (s' := { s₁.setGen g .finished with heap := h' }) I1 hk rfl (allBare_setGen I1.bare rfl)) e1
theorem ext_t (aok : AwT G pins σ AW) {R : Result → Shared → Prop} {a : Addr} {g : Nat} (hh : A.handled = none) (hroom : A.depth < recursionLimit) (hga : ∀ σ' H' s', Inv G pins σ' H' s' → s'.heap.IsGen a g)
    (S : Addr) (res : Value) (hYl : ∀ x m y H, Yl x m y H → ∃ acc, H S = some (.lst acc) ∧ acc.length < sizeLine ∧ ∃ m', m' < m ∧ W x m' (upd H S (.lst (acc ++ [y]))))
    (hR : ∀ s' H', Inv G pins σ H' s' → End H' → R (.ok (.ret res)) s') :
    ∀ (n : Nat) (x : ι) (B m : Nat) (H : Hp) (s : Shared) (gs : GenState), s.gens[g]? = some gs → SlT G pins σ AW W End Yl A.in1.in1 n x B gs → m < B → W x m H → AW x H s →
      codeAny (model G.prog G.w) A (.builtin "list.extend.loop" ⟨[.ref S, .ref a, res], []⟩) R s := by
  have put : ∀ (x : ι) (H1 : Hp) (s₁ : Shared) (acc : List V) (y : V) (v : Value), AW x H1 s₁ → H1 S = some (.lst acc) → acc.length < sizeLine → RelV y v →
      ∃ (its : List Value) (n : Nat), s₁.heap.get? S = some { cls := .type "list", data := .seq its.toArray n } ∧ its.length = acc.length ∧ AW x (upd H1 S (.lst (acc ++ [y]))) { s₁ with heap := s₁.heap.update S (Obj.mapSeq (·.push v)) } := by
    intro x H1 s₁ acc y v aw1 hS hz r
    obtain ⟨hz', its, nn, ri, e⟩ := (aok.inv _ _ _ aw1).hok S _ hS
    have e2 := Heap.get?_update_self (h := s₁.heap) (Obj.mapSeq (·.push v)) e rfl
    refine ⟨its, nn, e, ri.length.symm, aok.push x H1 s₁ S acc (acc ++ [y]) (its ++ [v]) (nn + 1) _ aw1 hS (fun b u hb q => (Heap.get?_update_other _ _ (Ne.symm hb)).trans q) ?_ (ri.append (.cons r .nil)) (by rw [List.length_append]; exact hz)⟩
    rw [e2]
    simp [Obj.mapSeq]
  intro n
  induction n with
  | zero =>
    intro x B m H s gs hgs hgo hm w aw
    refine codeAny_builtin F.entry_extend_loop ?_
    rw [Around.under_plainId F.plain_extend_loop _]
    show wpAny _ A.in1 (pyNext (.ref a) >>= _) _ _ s
    refine wpAny_bind (next_t (A := A.in1) aok hh hroom hga hgs hgo hm w aw (fun v s₁ gs' x' m' y H1 hgs' r aw1 yl kk => ?_) fun s₁ H1 I1 e1 => ?_)
    · obtain ⟨acc, hS, hz, m'', h1, h2⟩ := hYl x' m' y H1 yl
      obtain ⟨its, nn, e, hl, aw2⟩ := put x' H1 s₁ acc y v aw1 hS hz r
      exact (kk _ m'' _ h1 h2 aw2).elim
    · exact wpAny_pure (hR s₁ H1 I1 e1)
  | succ n ih =>
    intro x B m H s gs hgs hgo hm w aw
    refine codeAny_builtin F.entry_extend_loop ?_
    rw [Around.under_plainId F.plain_extend_loop _]
    show wpAny _ A.in1 (pyNext (.ref a) >>= _) _ _ s
    refine wpAny_bind (next_t (A := A.in1) aok hh hroom hga hgs hgo hm w aw (fun v s₁ gs' x' m' y H1 hgs' r aw1 yl kk => ?_) fun s₁ H1 I1 e1 => ?_)
    · obtain ⟨acc, hS, hz, m'', h1, h2⟩ := hYl x' m' y H1 yl
      obtain ⟨its, nn, e, hl, aw2⟩ := put x' H1 s₁ acc y v aw1 hS hz r
      show wpAny _ A.in1 (updateSeq S (·.push v) >>= _) _ _ _
      refine wpAny_bind ?_
      refine wpAny_updateSeq e rfl (wpAny_pure ⟨plainId_quiet F.plain_extend_loop _, ?_⟩) (by rw [List.size_toArray]; omega) (by show (its.toArray.push v).size ≤ sizeLine + 1; rw [Array.size_push, List.size_toArray]; omega)
      exact ih x' m' m'' _ { s₁ with heap := s₁.heap.update S (Obj.mapSeq (·.push v)) } gs' hgs' kk h1 h2 aw2
    · exact wpAny_pure (hR s₁ H1 I1 e1)
theorem collect_t (aok : AwT G pins σ AW) {E : Value → Shared → Prop} {a : Addr} {g : Nat} {gs : GenState} {n B m : Nat} {x : ι} {H : Hp} {s : Shared} {Q : List Value → Shared → Prop} (hh : A.handled = none) (hroom : A.depth < recursionLimit) (hga : ∀ σ' H' s', Inv G pins σ' H' s' → s'.heap.IsGen a g)
    (hYl : ∀ x m y H, Yl x m y H → ∃ acc, H s.heap.objs.size = some (.lst acc) ∧ acc.length < sizeLine ∧ ∃ m', m' < m ∧ W x m' (upd H s.heap.objs.size (.lst (acc ++ [y])))) (hE : ∀ H, End H → ∃ acc, H s.heap.objs.size = some (.lst acc))
    (hgs : s.gens[g]? = some gs) (hgo : SlT G pins σ AW W End Yl A.in1.in1 n x B gs) (hm : m < B) (w : W x m (upd H s.heap.objs.size (.lst []))) (aw : AW x H s)
    (hQ : ∀ s' H' acc vs, Inv G pins σ H' s' → End H' → H' s.heap.objs.size = some (.lst acc) → Vals acc vs → vs.length ≤ sizeLine → Q vs s') : wpAny (model G.prog G.w) A (collect (.ref a)) Q E s := by
  have hg1 := hga _ _ _ (aok.inv _ _ _ aw)
  have hSa : s.heap.objs.size ≠ a := fun e => by
    obtain ⟨o, _, _, ho, _⟩ := id hg1
    exact Nat.ne_of_lt (Heap.lt_size ho) e.symm
  unfold collect
  refine wpAny_bind (wpAny_runValue (codeAny_builtin F.entry_proto_collect ?_))
  rw [Around.under_plainId F.plain_proto_collect _]
  show wpAny _ A.in1 (newList [] >>= fun l => again (.builtin "list.__iadd__" ⟨[l, .ref a], []⟩)) _ _ s
  refine wpAny_bind (wpAny_newObj_type ?_)
  refine wpAny_pure ⟨plainId_quiet F.plain_list_iadd _, codeAny_builtin F.entry_list_iadd ?_⟩
  rw [Around.under_plainId F.plain_list_iadd _]
  have gty : ∀ {h : Heap}, (∀ b o, s.heap.get? b = some o → h.get? b = some o) → h.IsGen a g := fun {h} q => hg1.keeps q
  have k1 : ∀ b o, s.heap.get? b = some o → (s.heap.push { cls := .type "list", data := .seq ([] : List Value).toArray }).get? b = some o := fun b o e => Heap.get?_push_of_some _ e
  show wpAny _ A.in1 (Builtin.List.listExtendWith (.ref s.heap.objs.size) (.ref a) (.ref s.heap.objs.size)) _ _ _
  unfold Builtin.List.listExtendWith
  refine wpAny_bind (wpAny_typeOf (Heap.IsGen.typeIs (s := { s with heap := _ }) (gty k1)) ?_)
  have h1 : Builtin.List.listSameRef (.ref s.heap.objs.size) (.ref a) = false := by simp [Builtin.List.listSameRef, hSa]
  have h2 : (Value.type "generator" == Value.type "list") = false := by decide
  have h3 : (Value.type "generator" == Value.type "tuple") = false := by decide
  simp only [h1, h2, h3, Bool.or_false, Bool.false_eq_true, if_false]
  refine wpAny_bind (wpAny_pyIter_gen (s := { s with heap := _ }) (gty k1) ?_)
  refine wpAny_bind (wpAny_holding ?_)
  unfold Builtin.List.listLengthHint
  refine wpAny_bind (wpAny_specialOf (Heap.IsGen.typeIs (s := { s with heap := _ }) (gty k1)) F.gen_no_len ?_)
  show wpAny _ A.in1 (specialOf (Value.ref a) (Str.ofString "__length_hint__") >>= _) _ _ _
  refine wpAny_bind (wpAny_specialOf (Heap.IsGen.typeIs (s := { s with heap := _ }) (gty k1)) F.gen_no_hint ?_)
  refine wpAny_pure ?_
  show wpAny _ A.in1 (rule "list.extend.makes-room" >>= fun _ => Builtin.List.listTouch (.ref s.heap.objs.size) >>= fun _ =>
    again (.builtin "list.extend.loop" ⟨[.ref s.heap.objs.size, .ref a, .ref s.heap.objs.size], []⟩)) _ _ _
  refine wpAny_bind (wpAny_rule ?_)
  have hS₁ : (s.heap.push { cls := .type "list", data := .seq ([] : List Value).toArray }).get? s.heap.objs.size = some { cls := .type "list", data := .seq ([] : List Value).toArray } := Heap.get?_push_size _ rfl
  refine wpAny_bind ?_
  show wpAny _ A.in1 (updateSeq s.heap.objs.size (·.push .none) >>= fun _ => updateSeq s.heap.objs.size (·.pop)) _ _ _
  refine wpAny_bind (wpAny_updateSeq hS₁ rfl ?_)
  have hS₂ := Heap.get?_update_self (Obj.mapSeq (·.push Value.none)) hS₁ rfl
  refine wpAny_updateSeq hS₂ rfl ?_
  have hS₃ := Heap.get?_update_self (Obj.mapSeq (·.pop)) hS₂ rfl
  have oth : ∀ b o, s.heap.get? b = some o →
      (((s.heap.push { cls := .type "list", data := .seq ([] : List Value).toArray }).update s.heap.objs.size (Obj.mapSeq (·.push Value.none))).update s.heap.objs.size (Obj.mapSeq (·.pop))).get? b = some o :=
    fun b o e => (Heap.get?_update_other _ _ (Ne.symm (Nat.ne_of_lt (Heap.lt_size e)))).trans ((Heap.get?_update_other _ _ (Ne.symm (Nat.ne_of_lt (Heap.lt_size e)))).trans (k1 b o e))
  have aw2 := aok.laid x H s _ _ aw oth hS₃
  refine wpAny_pure ⟨plainId_quiet F.plain_extend_loop _, ext_t (A := A) aok hh hroom hga s.heap.objs.size _ hYl (fun s' H' I' e' => ?_) n x B m _ _ gs hgs hgo hm w aw2⟩
  obtain ⟨acc, hS⟩ := hE H' e'
  obtain ⟨hz', its, nn, ri, e⟩ := I'.hok _ _ hS
  have hl := ri.length
  show wpAny _ A (load s.heap.objs.size >>= _) _ _ s'
  refine wpAny_bind (wpAny_load e ?_)
  refine wpAny_pure ?_
  show Q its.toArray.toList s'
  rw [List.toList_toArray]
  exact hQ s' H' acc its I' e' hS ri (by omega)
theorem code_tuple_t (aok : AwT G pins σ AW) {E : Value → Shared → Prop} {a : Addr} {g : Nat} {gs : GenState} {n B m : Nat} {x : ι} {H : Hp} {s : Shared} {Q₁ : Value → Shared → Prop} (hh : A.handled = none) (hroom : A.depth < recursionLimit) (hga : ∀ σ' H' s', Inv G pins σ' H' s' → s'.heap.IsGen a g)
    (hYl : ∀ x m y H, Yl x m y H → ∃ acc, H s.heap.objs.size = some (.lst acc) ∧ acc.length < sizeLine ∧ ∃ m', m' < m ∧ W x m' (upd H s.heap.objs.size (.lst (acc ++ [y])))) (hE : ∀ H, End H → ∃ acc, H s.heap.objs.size = some (.lst acc))
    (hgs : s.gens[g]? = some gs) (hgo : SlT G pins σ AW W End Yl A.in1.in1.in1 n x B gs) (hm : m < B) (w : W x m (upd H s.heap.objs.size (.lst []))) (aw : AW x H s)
    (hQ : ∀ s' H' acc vs, Inv G pins σ H' s' → End H' → H' s.heap.objs.size = some (.lst acc) → Vals acc vs → vs.length ≤ sizeLine → Q₁ (.ref s'.heap.objs.size) { s' with heap := s'.heap.push { cls := .type "tuple", data := .seq vs.toArray } }) :
    codeAny (model G.prog G.w) A (.call (.builtin "tuple.__new__") ⟨[.type "tuple", .ref a], []⟩) (wants Q₁ E) s := by
  refine codeAny_of_tree ?_
  show wpAny _ A.in1 (do checkBuiltinCall "tuple.__new__" ⟨[.type "tuple", .ref a], []⟩; again (.builtin "tuple.__new__" ⟨[.type "tuple", .ref a], []⟩)) _ _ s
  refine wpAny_bind (wpAny_of_eq (F.newCall_tuple_1 _) (wpAny_pure ⟨plainId_quiet F.plain_tuple_new _, codeAny_builtin F.entry_tuple_new ?_⟩))
  rw [Around.under_plainId F.plain_tuple_new _]
  have hsub := sub_tuple_self
  have hinit := init_tuple_lookup
  have hmh := madeHere_tuple
  have hTI : s.TypeIs (.ref a) "generator" := Heap.IsGen.typeIs (hga _ _ _ (aok.inv _ _ _ aw))
  wp_walk using wpAny_typeOf hTI, collect_t (A := A.in1) aok hh hroom hga hYl hE hgs hgo hm w aw
  intro s' H' acc vs I' e' hS ri hl
  show wpAny _ _ (Builtin.Tuple.tupleExact vs.toArray >>= fun v => ret v) _ _ _
  unfold Builtin.Tuple.tupleExact
  refine wpAny_bind (wpAny_newObj_type ?_ (by show vs.toArray.size ≤ sizeLine; rw [List.size_toArray]; exact hl))
  exact wpAny_pure (hQ s' H' acc vs I' e' hS ri hl)
theorem call_tuple_t (aok : AwT G pins σ AW) {E : Value → Shared → Prop} {a : Addr} {g : Nat} {gs : GenState} {n B m : Nat} {x : ι} {H : Hp} {s : Shared} {Q : Value → Shared → Prop} (hh : A.handled = none) (hroom : A.depth < recursionLimit) (hga : ∀ σ' H' s', Inv G pins σ' H' s' → s'.heap.IsGen a g)
    (hYl : ∀ x m y H, Yl x m y H → ∃ acc, H s.heap.objs.size = some (.lst acc) ∧ acc.length < sizeLine ∧ ∃ m', m' < m ∧ W x m' (upd H s.heap.objs.size (.lst (acc ++ [y])))) (hE : ∀ H, End H → ∃ acc, H s.heap.objs.size = some (.lst acc))
    (hgs : s.gens[g]? = some gs) (hgo : SlT G pins σ AW W End Yl A.in1.in1.in1.in1 n x B gs) (hm : m < B) (w : W x m (upd H s.heap.objs.size (.lst []))) (aw : AW x H s)
    (hQ : ∀ s' H' acc vs, Inv G pins σ H' s' → End H' → H' s.heap.objs.size = some (.lst acc) → Vals acc vs → vs.length ≤ sizeLine → Q (.ref s'.heap.objs.size) { s' with heap := s'.heap.push { cls := .type "tuple", data := .seq vs.toArray } }) :
    wpAny (model G.prog G.w) A (call (.type "tuple") [.ref a]) Q E s := by
  refine callType_codes (Q₁ := fun obj s₁ => s₁.TypeIs obj "tuple" ∧ Q obj s₁) F.called_tuple (F.typeCall_tuple_1 _) F.entry_object_init
    (code_tuple_t (A := A.in1) aok hh hroom hga hYl hE hgs hgo hm w aw fun s' H' acc vs I' e' hS ri hl => ⟨⟨_, Heap.get?_push_size _ rfl, rfl⟩, hQ s' H' acc vs I' e' hS ri hl⟩) fun obj s₁ h₁ => ?_
  exact ⟨h₁.1, F.args_object_init_2 obj _, object_init_meets F.called_tuple.init.lookup F.called_tuple.made (by decide) G.prog G.w A.in1 _ s₁ ⟨h₁.1, rfl, h₁.2⟩⟩
end
end GX

set_option Elab.async false
set_option linter.all false
set_option autoImplicit false
set_option maxRecDepth 100000
set_option maxHeartbeats 1000000
/-! DT2: the two loops of a generator expression. -/
namespace GX
open PySem PySem.Spec PyProof.Rows L2 GenW
/-- where the generator stands ahead of a turn of its second loop -/
structure At2 where
  j : Nat
  pl : List (Addr × Obj)
  fp1 : List Addr
  tn1 : Nat → Heap → Prop
  W1 : Nat → Nat → Hp → Prop
section
variable {G : Cx} {pins : List (Addr × Obj)} {σ : L2.St} {fp : List Addr} {tn : Nat → Heap → Prop} {W : Nat → Nat → Hp → Prop} {End : Hp → Prop} {Yl : Option At2 → Nat → V → Hp → Prop} {J : It} {g g1 : TG} {tt tt1 : TT} {te : TE} {wi1 : TI} {vs : List Nat}
variable {elt tg iter tg1 iter1 : Expr} {ifs ifs1 : List Expr} {scope : Scope} {pos : Pos} {it : Addr} {A : Around}
def AW2 (G : Cx) (pins : List (Addr × Obj)) (σ : L2.St) (fp : List Addr) (tn : Nat → Heap → Prop) : Option At2 → Hp → Shared → Prop := fun x H s => match x with
  | none => Aw G pins σ fp tn 0 H s
  | some x => Aw G (pins ++ x.pl) σ x.fp1 x.tn1 x.j H s ∧ (∀ i h h', x.tn1 i h → (∀ b ∈ x.fp1, ∀ o, h.get? b = some o → h'.get? b = some o) → x.tn1 i h') ∧ ∀ i h, x.tn1 i h → ∀ b ∈ x.fp1, ∃ o, h.get? b = some o
def WW2 (W : Nat → Nat → Hp → Prop) : Option At2 → Nat → Hp → Prop := fun x m H => match x with
  | none => W 0 m H
  | some x => x.W1 x.j m H
theorem aw_fresh {i : Nat} {H : Hp} {s : Shared} (aw : Aw G pins σ fp tn i H s) (hkeep : ∀ i h h', tn i h → (∀ b ∈ fp, ∀ o, h.get? b = some o → h'.get? b = some o) → tn i h') {h2 : Heap} {n : Nat} (hlt : ∀ b ∈ fp, b < s.heap.objs.size)
    (k : ∀ b u, s.heap.get? b = some u → h2.get? b = some u) (e : h2.get? s.heap.objs.size = some { cls := .type "list", data := .seq ([] : List Value).toArray n }) : Aw G pins σ fp tn i (upd H s.heap.objs.size (.lst [])) { s with heap := h2 } := by
  refine ⟨aw.inv.laid (t' := s.toks) k (Nat.le_refl _) ⟨Nat.zero_le _, [], _, .nil, e⟩, hkeep _ _ _ aw.st fun b _ o e => k b o e, fun b hb => ?_⟩
  rw [upd_ne (Nat.ne_of_lt (hlt b hb))]; exact aw.fp b hb
theorem aw_put {i : Nat} {H : Hp} {s : Shared} (aw : Aw G pins σ fp tn i H s) (hkeep : ∀ i h h', tn i h → (∀ b ∈ fp, ∀ o, h.get? b = some o → h'.get? b = some o) → tn i h') {S : Addr} {acc acc2 : List V} {its : List Value} {n : Nat} {h2 : Heap} (hS : H S = some (.lst acc))
    (k : ∀ b u, b ≠ S → s.heap.get? b = some u → h2.get? b = some u) (e : h2.get? S = some { cls := .type "list", data := .seq its.toArray n }) (r : Vals acc2 its) (hz : acc2.length ≤ sizeLine) : Aw G pins σ fp tn i (upd H S (.lst acc2)) { s with heap := h2 } :=
  ⟨aw.inv.write (t' := s.toks) (by rw [hS]; trivial) (.inl rfl) k ⟨_, e⟩ ⟨hz, its, n, r, e⟩,
    hkeep _ _ _ aw.st fun b hb o eo => k b o (fun z => fresh_fp aw hS (z ▸ hb)) eo, fun b hb => by
      have n : b ≠ S := fun z => fresh_fp aw hS (z ▸ hb)
      rw [upd_ne n]; exact aw.fp b hb⟩
theorem aw2_ok (T : Turn G.prog G.w G.K tg J fp it tn) : AwT G pins σ (AW2 G pins σ fp tn) where
  inv := fun x H s aw => match x, aw with
    | none, aw => Aw.inv aw
    | some _, aw => (Aw.inv aw.1).unpinned
  gens := fun x H s g st aw hb => match x, aw with
    | none, aw => aw_gens aw hb
    | some _, aw => ⟨aw_gens aw.1 hb, aw.2⟩
  push := fun x H s S acc acc2 its n h2 aw hS k e r hz => match x, aw with
    | none, aw => aw_put aw T.keep hS k e r hz
    | some _, aw => ⟨aw_put aw.1 aw.2.1 hS k e r hz, aw.2⟩
  laid := fun x H s h2 n aw k e => match x, aw with
    | none, aw => aw_fresh aw T.keep (fun b hb => let ⟨_, z, _⟩ := T.obj _ _ (Aw.st aw) b hb; Heap.lt_size z) k e
    | some _, aw => ⟨aw_fresh aw.1 aw.2.1 (fun b hb => let ⟨_, z⟩ := aw.2.2 _ _ (Aw.st aw.1) b hb; Heap.lt_size z) k e, aw.2⟩
abbrev GE2 (elt tg iter tg1 iter1 : Expr) (ifs ifs1 : List Expr) (scope : Scope) (pos : Pos) : Expr := .GeneratorExp elt [⟨tg, iter, ifs, 0⟩, ⟨tg1, iter1, ifs1, 0⟩] scope pos
/-- the second loop -/
theorem seg_in2 (hc : G.calm = true) (hxe : G.xe = fun _ _ => False) {pl : List (Addr × Obj)} {fp1 : List Addr} {tn1 : Nat → Heap → Prop} {it1 : Addr} {J1 : It} {W1 : Nat → Nat → Hp → Prop} {Nx : Nat → Hp → Prop}
    (T1 : Turn G.prog G.w G.K tg1 J1 fp1 it1 tn1) (f1 : ∀ b ∈ fp1, ∀ H' : Hp, H' b = none → FpOk G (pins ++ pl) H' b) (pg : PG G tg1 g1) (pt : PTs G ifs1 tt1) (pe : PE G elt te)
    (hwip : L2.wipe σ vs = σ) (hco : G.env.scope.isCoroutine = false) {kont : Result → Sem PySem.Fin} {l : List Value} {c0 : Code} {p0 : Pos} {kp : List Value}
    (hov : A.over (.compLoop (GE2 elt tg iter tg1 iter1 ifs ifs1 scope pos) 1 (.ref it1) .none G.env) [.ret kont none false l c0 p0 kp] = G.A)
    (step : ∀ j k H, W1 j k H → (J1.stop j H ∧ Nx k H) ∨ (J1.go j H ∧ ∀ x H', J1.yld j H x H' → g1 x σ H' fun σ2 H2 => L2.wipe σ2 vs = σ ∧ tt1 σ2 H2 fun b H3 =>
      if b = true then te σ2 H3 fun y H4 => Yl (some ⟨j + 1, pl, fp1, tn1, W1⟩) k y H4 else ∃ k', k' < k ∧ W1 (j + 1) k' H3)) (K0 : Nat)
    (after : ∀ (n k : Nat) (s₀ s : Shared) (H : Hp), k < n → k ≤ K0 → Nx k H → Inv G (pins ++ pl) σ H s → Seg (model G.prog G.w) A (fun n s₀ r s₁ => r = .ok .next ∧ GXE G pins σ End n s₀ s₁) (YT (AW2 G pins σ fp tn) (WW2 W) Yl) n s₀ c0 (kont (.ok .next)) [] s) :
    ∀ (k n j : Nat) (s₀ s : Shared) (H : Hp), k < n → k ≤ K0 → W1 j k H → Aw G (pins ++ pl) σ fp1 tn1 j H s →
      Seg (model G.prog G.w) A (fun n s₀ r s₁ => r = .ok .next ∧ GXE G pins σ End n s₀ s₁) (YT (AW2 G pins σ fp tn) (WW2 W) Yl) n s₀
        (.compLoop (GE2 elt tg iter tg1 iter1 ifs ifs1 scope pos) 1 (.ref it1) .none G.env)
        ((model G.prog G.w).den (.compLoop (GE2 elt tg iter tg1 iter1 ifs ifs1 scope pos) 1 (.ref it1) .none G.env)) [.ret kont none false l c0 p0 kp] s := by
  intro k
  induction k using Nat.strongRecOn with
  | ind k ih =>
    intro n j s₀ s H hkn hk0 w aw
    have nof : ∀ {α : Prop} (x : Value) (s' : Shared), G.xe x s' → α := fun {α} x s' hx => by rw [hxe] at hx; exact hx.elim
    have stat : ∀ {H' : Hp}, (∀ b ∈ fp1, H' b = none) → ∀ b ∈ fp1, FpOk G (pins ++ pl) H' b := fun hn b hb => f1 b hb _ (hn b hb)
    show Seg _ A _ _ _ s₀ _ ((compTurn (GE2 elt tg iter tg1 iter1 ifs ifs1 scope pos) 1 (.ref it1) .none G.env).onRaise (fun x => do noteFrame x G.env; theTreesLotGoes x)) [.ret kont none false l c0 p0 kp] s
    rw [turn2_in, Sem.onRaise_eq_wrap]
    refine seg_bind_wrap (wpAny_standAt ?_)
    rcases step j k H w with ⟨stop, hN⟩ | ⟨go, stp⟩
    · refine seg_bind_wrap ?_
      rw [hov]
      refine wpAny_mono (T1.done G rfl rfl rfl hc j _ s σ H (fun _ _ => False) aw.inv (stat aw.fp) aw.st stop) (fun r s6 ⟨hr, I6⟩ => ?_) fun _ _ z => z.elim
      subst hr
      exact seg_leaf (.ok .next) (after n k s₀ s6 H hkn hk0 hN I6)
    · refine seg_bind_wrap ?_
      rw [hov]
      refine wpAny_mono (T1.item G rfl rfl rfl hc j _ s σ H (fun _ _ => False) aw.inv (stat aw.fp) aw.st go) (fun r s6 ⟨u, hr, h6⟩ => ?_) fun _ _ z => z.elim
      subst hr
      refine seg_bind_wrap ?_
      rw [hov]
      refine wpAny_mono h6 (fun _ s7 ⟨x, H7, I7, r7, y7, st7, n7⟩ => ?_) fun _ _ z => z.elim
      have I7' := I7.pinned (stat n7) (T1.obj _ _ st7)
      refine seg_bind_wrap ?_
      rw [hov]
      refine wpAny_mono (pg.run _ s7 σ H7 x u _ I7' r7 (stp x H7 y7)) (fun _ s8 ⟨σ8, H8, I8, hw8, q8⟩ => ?_) fun x s' hx => nof x s' hx
      refine seg_bind_wrap ?_
      rw [hov]
      refine wpAny_mono (pt.run _ s8 σ8 H8 _ I8 q8) (fun b s9 ⟨H9, I9, q9⟩ => ?_) fun x s' hx => nof x s' hx
      have fin : ∀ {s' : Shared} {H' : Hp}, Inv G ((pins ++ pl) ++ pinsAt fp1 s7.heap) σ8 H' s' → Aw G (pins ++ pl) σ fp1 tn1 (j + 1) H' s' := fun {s' H'} I' => by
        have pin' : ∀ b ∈ fp1, ∀ o, s7.heap.get? b = some o → s'.heap.get? b = some o ∧ H' b = none := fun b hb o e =>
          let z := I'.pin (b, o) (List.mem_append_right _ (List.mem_append_right _ (mem_pinsAt hb e)))
          ⟨z.1, z.2.1⟩
        have hl : σ.length = σ8.length := by rw [← hw8, wipe_length]
        refine ⟨I'.unpinned.weak hl fun j v e => ?_, T1.keep _ _ _ st7 fun b hb o e => (pin' b hb o e).1, fun b hb => ?_⟩
        · rw [← hw8] at e
          exact (wipe_some e).1
        · obtain ⟨o, e, _⟩ := T1.obj _ _ st7 b hb
          exact (pin' b hb o e).2
      cases b with
      | false =>
        simp only [Bool.false_eq_true, if_false] at q9 ⊢
        obtain ⟨k', hk', w'⟩ := q9
        exact seg_again rfl (ih k' hk' n (j + 1) s₀ s9 H9 (by omega) (by omega) w' (fin I9))
      | true =>
        simp only [if_true] at q9 ⊢
        have hy : ∀ v, yieldOut G.env v = yieldValue v := fun v => by simp only [yieldOut, hco, Bool.false_eq_true, if_false]
        simp only [hy]
        rw [Sem.bind_eq_wrap', Sem.bind_eq_wrap', Sem.wrap_wrap, Sem.wrap_wrap]
        refine seg_wrap ?_
        rw [hov]
        refine wpAny_mono (pe.run _ s9 σ8 H9 _ I9 q9) (fun v s10 ⟨y, H10, I10, r10, q10⟩ => ?_) fun x s' hx => nof x s' hx
        obtain ⟨n', rfl⟩ : ∃ n', n = n' + 1 := ⟨n - 1, by omega⟩
        refine seg_at (seg_yield rfl rfl rfl ⟨some ⟨j + 1, pl, fp1, tn1, W1⟩, k, y, H10, by omega, r10, ⟨fin I10, T1.keep, fun i h st b hb => let ⟨o, z, _⟩ := T1.obj i h st b hb; ⟨o, z⟩⟩, q10, fun s2 m2 H2 hm2 w2 aw2 => ?_⟩)
        exact seg_again rfl (ih m2 hm2 n' (j + 1) s2 s2 H2 (by omega) (by omega) w2 aw2.1)
/-- what the consumer gets -/
def YL (YY : (Nat → Nat → Hp → Prop) → Nat → Nat → V → Hp → Prop) : Option At2 → Nat → V → Hp → Prop := fun x k y H => match x with
  | none => False
  | some x => YY x.W1 x.j k y H
/-- the turns -/
def Turn2 (σ : L2.St) (vs : List Nat) (J : It) (g : TG) (tt : TT) (wi1 : TI) (g1 : TG) (tt1 : TT) (te : TE) (W : Nat → Nat → Hp → Prop) (End : Hp → Prop) (YY : (Nat → Nat → Hp → Prop) → Nat → Nat → V → Hp → Prop) : Prop :=
  ∀ i m H, W i m H → (J.stop i H ∧ End H) ∨ (J.go i H ∧ ∀ x H', J.yld i H x H' → g x σ H' fun σ2 H2 => L2.wipe σ2 vs = σ ∧ tt σ2 H2 fun b H3 =>
    if b = true then wi1 σ2 H3 fun J1 H4 => ∃ W1 : Nat → Nat → Hp → Prop, (∃ k, k < m ∧ W1 0 k H4) ∧ ∀ j k H, W1 j k H →
      (J1.stop j H ∧ ∃ m', m' ≤ k ∧ W (i + 1) m' H) ∨ (J1.go j H ∧ ∀ x H', J1.yld j H x H' → g1 x σ H' fun σ4 H5 => L2.wipe σ4 vs = σ ∧ tt1 σ4 H5 fun b H6 =>
        if b = true then te σ4 H6 fun y H7 => YY W1 (j + 1) k y H7 else ∃ k', k' < k ∧ W1 (j + 1) k' H6)
    else ∃ m', m' < m ∧ W (i + 1) m' H3)
variable {YY : (Nat → Nat → Hp → Prop) → Nat → Nat → V → Hp → Prop}
theorem seg_out2 (hc : G.calm = true) (hxe : G.xe = fun _ _ => False) (hpn : G.pn = []) (hpi : ∀ p ∈ pins, p.1 ∉ fp) (hex : G.ex = fp)
    (T : Turn G.prog G.w G.K tg J fp it tn) (pg : PG G tg g) (pt : PTs G ifs tt) (pi1 : PI G tg1 iter1 wi1) (pg1 : PG G tg1 g1) (pt1 : PTs G ifs1 tt1) (pe : PE G elt te)
    (hwip : L2.wipe σ vs = σ) (hco : G.env.scope.isCoroutine = false) (hs1 : ∀ x, foldedSetIterable iter1 G.env x = pure x)
    (hov : A.over (.compLoop (GE2 elt tg iter tg1 iter1 ifs ifs1 scope pos) 0 (.ref it) .none G.env) [] = G.A)
    (turn : Turn2 σ vs J g tt wi1 g1 tt1 te W End YY) :
    ∀ (m n i : Nat) (s₀ s : Shared) (H : Hp), m < n → W i m H → Aw G pins σ fp tn i H s →
      Seg (model G.prog G.w) A (fun n s₀ r s₁ => r = .ok .next ∧ GXE G pins σ End n s₀ s₁) (YT (AW2 G pins σ fp tn) (WW2 W) (YL YY)) n s₀
        (.compLoop (GE2 elt tg iter tg1 iter1 ifs ifs1 scope pos) 0 (.ref it) .none G.env)
        ((model G.prog G.w).den (.compLoop (GE2 elt tg iter tg1 iter1 ifs ifs1 scope pos) 0 (.ref it) .none G.env)) [] s := by
  intro m
  induction m using Nat.strongRecOn with
  | ind m ih =>
    intro n i s₀ s H hmn w aw
    have stat : ∀ {H' : Hp} {σ' : L2.St} {s' : Shared}, Inv G pins σ' H' s' → (∀ b ∈ fp, H' b = none) → ∀ b ∈ fp, FpOk G pins H' b := fun {H' σ' s'} I' hn b hb =>
      ⟨hn b hb, (I'.ok.exf b (by rw [hex]; exact hb)).1, I'.ok.exfs b (by rw [hex]; exact hb), .inl (by rw [hex]; exact hb), fun x c e => (I'.ok.exf b (by rw [hex]; exact hb)).2 x c e, fun p hp z => by
        rw [hpn, List.nil_append] at hp
        exact hpi p hp (by rw [z]; exact hb)⟩
    have nof : ∀ {α : Prop} (x : Value) (s' : Shared), G.xe x s' → α := fun {α} x s' hx => by rw [hxe] at hx; exact hx.elim
    show Seg _ A _ _ _ s₀ _ ((compTurn (GE2 elt tg iter tg1 iter1 ifs ifs1 scope pos) 0 (.ref it) .none G.env).onRaise (leaving G.env)) [] s
    rw [turn2_out, Sem.onRaise_eq_wrap]
    refine seg_bind_wrap (wpAny_standAt ?_)
    rcases turn i m H w with ⟨stop, hE⟩ | ⟨go, step⟩
    · refine seg_bind_wrap ?_
      rw [hov]
      refine wpAny_mono (T.done G rfl rfl rfl hc i pins s σ H (fun _ _ => False) aw.inv (stat aw.inv aw.fp) aw.st stop) (fun r s6 ⟨hr, I6⟩ => ?_) fun _ _ z => z.elim
      subst hr
      exact seg_end (.ok .next) ⟨rfl, H, I6, hE⟩
    · refine seg_bind_wrap ?_
      rw [hov]
      refine wpAny_mono (T.item G rfl rfl rfl hc i pins s σ H (fun _ _ => False) aw.inv (stat aw.inv aw.fp) aw.st go) (fun r s6 ⟨u, hr, h6⟩ => ?_) fun _ _ z => z.elim
      subst hr
      refine seg_bind_wrap ?_
      rw [hov]
      refine wpAny_mono h6 (fun _ s7 ⟨x, H7, I7, r7, y7, st7, n7⟩ => ?_) fun _ _ z => z.elim
      have I7' := I7.pinned (stat I7 n7) (T.obj _ _ st7)
      refine seg_bind_wrap ?_
      rw [hov]
      refine wpAny_mono (pg.run _ s7 σ H7 x u _ I7' r7 (step x H7 y7)) (fun _ s8 ⟨σ8, H8, I8, hw8, q8⟩ => ?_) fun x s' hx => nof x s' hx
      refine seg_bind_wrap ?_
      rw [hov]
      refine wpAny_mono (pt.run _ s8 σ8 H8 _ I8 q8) (fun b s9 ⟨H9, I9, q9⟩ => ?_) fun x s' hx => nof x s' hx
      have hl : σ.length = σ8.length := by rw [← hw8, wipe_length]
      have back : ∀ {s' : Shared} {H' : Hp}, Inv G (pins ++ pinsAt fp s7.heap) σ H' s' → Aw G pins σ fp tn (i + 1) H' s' := fun {s' H'} I' => by
        have pin' : ∀ b ∈ fp, ∀ o, s7.heap.get? b = some o → s'.heap.get? b = some o ∧ H' b = none := fun b hb o e =>
          let z := I'.pin (b, o) (List.mem_append_right _ (List.mem_append_right _ (mem_pinsAt hb e)))
          ⟨z.1, z.2.1⟩
        refine ⟨I'.unpinned, T.keep _ _ _ st7 fun b hb o e => (pin' b hb o e).1, fun b hb => ?_⟩
        obtain ⟨o, e, _⟩ := T.obj _ _ st7 b hb
        exact (pin' b hb o e).2
      have wk : ∀ {s' : Shared} {H' : Hp}, Inv G (pins ++ pinsAt fp s7.heap) σ8 H' s' → Inv G (pins ++ pinsAt fp s7.heap) σ H' s' := fun I' => I'.weak hl fun j v e => by
        rw [← hw8] at e
        exact (wipe_some e).1
      cases b with
      | false =>
        simp only [Bool.false_eq_true, if_false] at q9 ⊢
        obtain ⟨m', hm', w'⟩ := q9
        exact seg_again rfl (ih m' hm' n (i + 1) s₀ s9 H9 (by omega) w' (back (wk I9)))
      | true =>
        simp only [if_true] at q9 ⊢
        refine seg_bind_wrap ?_
        rw [hov]
        refine wpAny_mono (pi1.run _ s9 σ8 H9 _ I9 q9) (fun xv s10 h10 => ?_) fun x s' hx => nof x s' hx
        refine seg_bind_wrap (wpAny_standAt ?_)
        refine seg_bind_wrap (wpAny_of_eq (hs1 xv) ?_)
        refine seg_bind_wrap ?_
        rw [hov]
        refine wpAny_holding ?_
        refine wpAny_mono h10 (fun itv s11 h11 => ?_) fun x s' hx => nof x s' hx
        obtain ⟨it1, fp1, tn1, J1, H4, e, I4, T1, st1, f1, W1, ⟨k0, hk0, w1⟩, stp⟩ := h11
        subst e
        have I5 := wk I4
        refine seg_call fun p => ?_
        show Seg _ A _ _ _ s₀ _ ((compStart (GE2 elt tg iter tg1 iter1 ifs ifs1 scope pos) 1 (.ref it1) .none G.env).onRaise (fun x => do noteFrame x G.env; standAt theWindowsPlace)) _ s11
        have loop := fun (kont : Result → Sem PySem.Fin) (hk : kont (.ok .next) = .pure (.again (.compLoop (GE2 elt tg iter tg1 iter1 ifs ifs1 scope pos) 0 (.ref it) .none G.env))) (s₀ : Shared) => seg_in2 (iter1 := iter1) (kont := kont) (W := W) (tn := tn) (fp := fp) (End := End) (Yl := YL YY) (it1 := it1) (σ := σ) (vs := vs) (A := A) (iter := iter) (tg := tg) (ifs := ifs) (scope := scope) (pos := pos) (c0 := .compLoop (GE2 elt tg iter tg1 iter1 ifs ifs1 scope pos) 0 (.ref it) .none G.env) (p0 := p) (kp := []) (l := []) (Nx := fun k H => ∃ m', m' ≤ k ∧ W (i + 1) m' H) hc hxe T1 (fun b hb H' e => ⟨e, (f1 b hb).2⟩) pg1 pt1 pe hwip hco
          (by rw [over_loop (by rfl) (by rfl)]; exact hov) stp k0 (fun n k s₀ s' H' hkn hkk ⟨m', hm', w'⟩ I' => by
            rw [hk]
            exact seg_again rfl (ih m' (by omega) n (i + 1) s₀ s' H' (by omega) w' (back I'))) k0 n 0 s₀ s11 H4 (by omega) (Nat.le_refl _) w1 ⟨I5, st1, fun b hb => (f1 b hb).1⟩
        unfold compStart
        rw [Sem.onRaise_eq_wrap]
        show Seg _ A _ _ _ s₀ _ ((ask >>= _).wrap _ _ _ _) _ s11
        refine seg_bind_wrap (wpAny_askSetting ?_)
        split
        · exact seg_again rfl (loop _ rfl s₀)
        · refine seg_bind_wrap (wpAny_rule ?_)
          show Seg _ A _ _ _ s₀ _ ((standAt iter1.pos >>= _).wrap _ _ _ _) _ s11
          exact seg_bind_wrap (wpAny_standAt (seg_bind_wrap (T1.self _ 0 s11 _ _ st1 (seg_again rfl (loop _ rfl s₀)))))
end
end GX

set_option Elab.async false
set_option linter.all false
set_option autoImplicit false
set_option maxRecDepth 100000
set_option maxHeartbeats 1000000
/-! DT3: such a generator is made; a tuple of it. -/
namespace GX
open PySem PySem.Spec PyProof.Rows L2 GenW
theorem ge2_eval (elt tg iter tg1 iter1 : Expr) (ifs ifs1 : List Expr) (scope : Scope) (pos : Pos) (env : Env) (hco : scope.isCoroutine = false) :
    eval (GE2 elt tg iter tg1 iter1 ifs ifs1 scope pos) env = (do
      let x ← eval iter env
      standAt iter.pos
      let x ← genFold iter env x
      let it ← holding [x] (pyIter x)
      enterFrame
      let cl ← closureFor scope env
      let code ← genexprCode env pos (env.qual ++ "<genexpr>") scope
      let bi ← builtinsFor env.globals env.builtins
      let cenv ← newFunctionEnv scope env.globals cl [(".0", it)] (env.qual ++ "<genexpr>.") none code none bi
      newGenerator (.compStart (GE2 elt tg iter tg1 iter1 ifs ifs1 scope pos) 0 it .none cenv) "<genexpr>" (env.qual ++ "<genexpr>")) := by
  rw [arm_eval_GeneratorExp]
  simp only [hco, Bool.false_eq_true, if_false]
  cases iter <;> rfl
section
variable {M : Model} {A : Around} {E : Value → Shared → Prop} {s : Shared}
theorem ge2_make {env : Env} {elt tg iter tg1 iter1 : Expr} {ifs ifs1 : List Expr} {scope : Scope} {cl : List (Str × Addr)} {pos : Pos} {Q : Value → Shared → Prop}
    (hco : scope.isCoroutine = false) (hclos : closureFor scope env = pure cl) (hcell : ∀ y ∈ scope.names, y.2 ≠ .cell) (h0 : scope.names.lookup (".0" : Str) = some NameKind.local) (hkind : scope.kind = .function)
    (hroom : A.depth < recursionLimit)
    (h : wpAny M A (eval iter env) (fun xv s₁ => wpAny M A (pyIter xv) (fun it s₂ => s₂.heap.NoLimit ∧
      wpAny M A (genexprCode env pos (env.qual ++ "<genexpr>") scope) (fun code s₃ => wpAny M A (builtinsFor env.globals env.builtins) (fun bi s₄ =>
        ∀ h', h'.Ns s₄.heap.objs.size (fun y => if y = ".0" then some it else none) → Heap.SameBut s₄.heap.objs.size (s₄.heap.push { cls := .type "frame", data := .dict #[] }) h' →
          Q (.ref h'.objs.size) { s₄ with
            gens := s₄.gens.push (.fresh (.compStart (GE2 elt tg iter tg1 iter1 ifs ifs1 scope pos) 0 it .none (genEnv scope cl s₄.heap.objs.size code bi env))),
            toks := s₄.toks + 1 + 1 + 1,
            heap := h'.push { cls := .type "generator", data := .fields #[.int s₄.gens.size 0, .str "<genexpr>" (s₄.toks + 1), .str (env.qual ++ "<genexpr>") (s₄.toks + 1 + 1)] } }) E s₃) E s₂) E s₁) E s)
    (hs : ∀ x, genFold iter env x = pure x) :
    wpAny M A (eval (GE2 elt tg iter tg1 iter1 ifs ifs1 scope pos) env) Q E s := by
  rw [ge2_eval _ _ _ _ _ _ _ _ _ _ hco, hclos]
  refine wpAny_bind (wpAny_mono h (fun xv s₁ h₁ => ?_) fun _ _ e => e)
  refine wpAny_bind (wpAny_standAt ?_)
  refine wpAny_bind (wpAny_of_eq (hs xv) ?_)
  refine wpAny_bind (wpAny_holding (wpAny_mono h₁ (fun it s₂ h₂ => ?_) fun _ _ e => e))
  refine wpAny_bind (wpAny_enterFrame h₂.1 hroom ?_)
  refine wpAny_bind (wpAny_pure ?_)
  refine wpAny_bind (wpAny_mono h₂.2 (fun code s₃ h₃ => ?_) fun _ _ e => e)
  refine wpAny_bind (wpAny_mono h₃ (fun bi s₄ h₄ => ?_) fun _ _ e => e)
  have hbinds : ∀ y ∈ ([((".0" : Str), it)] : List (Str × Value)), scope.names.lookup y.1 = some NameKind.local := by
    intro y hy
    rcases List.mem_cons.mp hy with rfl | hy
    · exact h0
    · cases hy
  refine wpAny_bind (wpAny_newFunctionEnv hcell hbinds (fun h' hn' hs' => ?_) hkind)
  have e : (fun y : Str => ([((".0" : Str), it)] : List (Str × Value)).reverse.lookup y) = fun y : Str => if y = (".0" : Str) then some it else none := by
    funext y
    by_cases hy : y = ".0"
    · subst hy; simp
    · have : (y == (".0" : Str)) = false := by simpa using hy
      simp [List.lookup, this, hy]
  rw [e] at hn'
  simp only [newGenerator, newFields]
  refine wpAny_bind (wpAny_newGen (wpAny_bind (wpAny_mkText (wpAny_bind (wpAny_mkText (wpAny_newObj_type ?_ (by size_fits)))))))
  exact h₄ h' hn' hs'
end
/-- a generator that has not begun stands at a -/
structure Made2 (X : Cx) (pins : List (Addr × Obj)) (σ : L2.St) (elt tg iter tg1 iter1 : Expr) (ifs ifs1 : List Expr) (scope : Scope) (pos : Pos) (vs : List Nat) (J : It) (H2 : Hp) (a : Addr) (s5 : Shared) : Prop where
  ex : ∃ (s4 : Shared) (fp : List Addr) (it : Addr) (tn : Nat → Heap → Prop) (code : Value) (g : Nat) (go : Obj),
    Turn X.prog X.w X.K tg J fp it tn ∧ s5.gens[g]? = some (.fresh (.compStart (GE2 elt tg iter tg1 iter1 ifs ifs1 scope pos) 0 (.ref it) .none (genEnv scope (cloFrom X.env.cells scope.names []) s4.heap.objs.size code builtinsNs X.env))) ∧
    a ∉ fp ∧ (∀ h : Heap, h.get? a = some go → h.IsGen a g) ∧
    (∀ A : Around, A.handled = none → A.frames = some (genEnv scope (cloFrom X.env.cells scope.names []) s4.heap.objs.size code builtinsNs X.env :: X.stack) →
      Aw (gex X s4 H2 (genEnv scope (cloFrom X.env.cells scope.names []) s4.heap.objs.size code builtinsNs X.env) fp A) [(a, go)] (L2.wipe σ vs) fp tn 0 H2 s5) ∧
    ∀ A σ' H' s', Inv (gex X s4 H2 (genEnv scope (cloFrom X.env.cells scope.names []) s4.heap.objs.size code builtinsNs X.env) fp A) [(a, go)] σ' H' s' → Inv X pins σ H' s'
section
variable {X : Cx} {pins : List (Addr × Obj)} {σ : L2.St} {H : Hp} {s : Shared}
theorem gen_made2 {c P : Addr} {elt tg iter tg1 iter1 : Expr} {ifs ifs1 : List Expr} {scope : Scope} {pos : Pos} {own : List (Str × Nat)} {wi : TI} {k : Nat} {Q' : Value → Shared → Prop} {Rr : It → Hp → Prop}
    (hr : Room k X.A) (TB : GxR.TabB X.base X.mg c P) (hcode : X.env.code = .ref c) (hi : PI X tg iter wi) (ok : BlkOk X.N X.env.scope scope own) (nc : ∀ y ∈ scope.names, y.2 ≠ .cell) (hN : X.N.Nodup)
    (hco : scope.isCoroutine = false) (hdot : scope.names.lookup (".0" : Str) = some NameKind.local) (hs : ∀ v, genFold iter X.env v = pure v) (I : Inv X pins σ H s)
    (h : wi σ H fun J H1 => GxR.TabG H1 P ∧ Rr J H1)
    (hQ : ∀ J H1 H2 a s5, Rr J H1 → GxR.Tabbed P H1 H2 → Made2 X pins σ elt tg iter tg1 iter1 ifs ifs1 scope pos (own.map (·.2)) J H2 a s5 → Q' (.ref a) s5) :
    wpAny (model X.prog X.w) X.A (eval (GE2 elt tg iter tg1 iter1 ifs ifs1 scope pos) X.env) Q' X.xe s := by
  have hfree : ∀ y ∈ scope.names, y.2 = .free → ∃ c, X.env.cells.lookup y.1 = some c := fun y hy e => by
    rcases ok.free y hy e with k | k
    · exact I.ok.has _ (.inl k)
    · exact I.ok.has _ (.inr k)
  refine ge2_make hco (closure_ok hfree) nc hdot ok.kind hr.depth ?_ hs
  refine thn (hi.run pins s σ H _ I h) fun xv s1 hx => thn hx fun itv s2 h2 => ?_
  obtain ⟨it, fp, tn, J, H1, e, I2, T, st2, f2, ⟨ps, hP, ht⟩, q⟩ := h2
  subst e
  refine ⟨I2.nolimit, ?_⟩
  have hPs : s2.heap.get? P = some { cls := .none, data := .fields ps } := I2.hok P _ hP
  have cd : PySem.W.CodeHd s2.heap c P := TB.code.keeps fun b u e => I2.bk b u e
  have cont : ∀ (code : Value) (h3 : Heap) (tk : Nat) (ps' : Array Value), Heap.ExtBut P s2.heap h3 → s2.heap.objs.size ≤ h3.objs.size → h3.get? P = some { cls := .none, data := .fields ps' } → (∃ more, ps' = ps ++ more) → TriplesOk ps'.toList →
      wpAny (model X.prog X.w) X.A (builtinsFor X.env.globals X.env.builtins) (fun bi s₄ =>
        ∀ h', h'.Ns s₄.heap.objs.size (fun y => if y = ".0" then some (.ref it) else none) → Heap.SameBut s₄.heap.objs.size (s₄.heap.push { cls := .type "frame", data := .dict #[] }) h' →
          Q' (.ref h'.objs.size) { s₄ with
            gens := s₄.gens.push (.fresh (.compStart (GE2 elt tg iter tg1 iter1 ifs ifs1 scope pos) 0 (.ref it) .none (genEnv scope (cloFrom X.env.cells scope.names []) s₄.heap.objs.size code bi X.env))),
            toks := s₄.toks + 1 + 1 + 1,
            heap := h'.push { cls := .type "generator", data := .fields #[.int s₄.gens.size 0, .str "<genexpr>" (s₄.toks + 1), .str (X.env.qual ++ "<genexpr>") (s₄.toks + 1 + 1)] } }) X.xe { s2 with heap := h3, toks := tk } := by
    intro code h3 tk ps' hx hsz hP3 ⟨more, hmore⟩ ht3
    subst hmore
    obtain ⟨bm, ob, e1, e2, e3, e4, e5, e6, e7, e8⟩ := TB.bm
    have keep3 : ∀ b u, b ≠ P → s2.heap.get? b = some u → h3.get? b = some u := fun b u hb e => hx b u hb e
    have I3 : Inv X pins σ (upd H1 P (.tbl (ps ++ more))) { s2 with heap := h3, toks := tk } :=
      GxR.inv_tab (g' := s2.gens) (d' := s2.drawn) I2 hP (fun b o hb e => keep3 b o hb e) hP3 I2.bare
    have nP : ∀ b, H1 b = none → (upd H1 P (.tbl (ps ++ more))) b = none := fun b e => by
      rw [upd_ne fun z => by rw [z, hP] at e; cases e]; exact e
    refine wpAny_builtinsFor (m := X.mg) (by rw [I2.ok.glob]; exact (I2.mod.glob.keeps I2.bk).extBut hx TB.gP) e1 e2 (keep3 _ _ e4 (I2.bk _ _ e5)) e6 e7 e8 ?_
    intro h' hn hs'
    have hsz' : h'.objs.size = h3.objs.size + 1 := by rw [hs'.1, Heap.size_push]
    have flt : ∀ b ∈ fp, b < s2.heap.objs.size := fun b hb => by
      obtain ⟨o, e, _⟩ := T.obj _ _ st2 b hb
      exact Heap.lt_size e
    have fneP : ∀ b ∈ fp, b ≠ P := fun b hb z => by
      have := (f2 b hb).1
      rw [z, hP] at this; cases this
    have f3 : ∀ b ∈ fp, FpOk X pins (upd H1 P (.tbl (ps ++ more))) b := fun b hb => ⟨nP b (f2 b hb).1, (f2 b hb).2⟩
    have kp' : ∀ b o, h3.get? b = some o → h'.get? b = some o := fun b o e => hs'.extBut b o (Nat.ne_of_lt (Heap.lt_size e)) (Heap.get?_push_of_some _ e)
    refine hQ J H1 _ _ _ q ⟨⟨ps ++ more, upd_same, ht3⟩, fun b hb => upd_ne hb⟩ ⟨{ s2 with heap := h3, toks := tk }, fp, it, tn, code, s2.gens.size, { cls := .type "generator", data := .fields #[.int s2.gens.size 0, .str "<genexpr>" (tk + 1), .str (X.env.qual ++ "<genexpr>") (tk + 1 + 1)] }, T, Array.getElem?_push_size .., fun hb => ?_, fun h e => ⟨_, _, _, e, rfl, rfl, rfl⟩, fun A hA hfr => ?_, fun A σ' H' s' I6 => ?_⟩
    · have := flt _ hb
      rw [hsz'] at this
      exact absurd (Nat.lt_of_lt_of_le this (Nat.le_succ_of_le hsz)) (Nat.lt_irrefl _)
    · have I4 := gen_inv (own := own) (fp := fp) (A := A) (code := code) (it := .ref it) I3 ok nc hN (fun b hb => ⟨f3 b hb, Nat.lt_of_lt_of_le (flt b hb) hsz⟩) hA hfr hn hs'
      have I5 := inv_gens (s' := { s2 with
            gens := s2.gens.push (.fresh (.compStart (GE2 elt tg iter tg1 iter1 ifs ifs1 scope pos) 0 (.ref it) .none (genEnv scope (cloFrom X.env.cells scope.names []) h3.objs.size code builtinsNs X.env))),
            toks := tk + 1 + 1 + 1,
            heap := h'.push { cls := .type "generator", data := .fields #[.int s2.gens.size 0, .str "<genexpr>" (tk + 1), .str (X.env.qual ++ "<genexpr>") (tk + 1 + 1)] } }) I4 (fun b o e => Heap.get?_push_of_some _ e) rfl (AllBare.push I2.bare rfl)
      refine ⟨I5.pins_of fun p hp => ?_, ?_, fun b hb => nP b (f2 b hb).1⟩
      · rw [List.mem_singleton.mp hp]
        refine ⟨Heap.get?_push_size _ rfl, I4.hok.fresh (Nat.le_refl _), ?_, I4.nofs (Nat.le_refl _), fun v e => by cases e⟩
        show h'.objs.size ≠ h3.objs.size
        omega
      · exact T.keep _ _ _ st2 fun b hb o e => Heap.get?_push_of_some _ (kp' b o (keep3 b o (fneP b hb) e))
    · exact I3.call' (ch := fp) I6.os I6.base I6.hok I6.bare fun b hb => ⟨(f3 b hb).2.2.2.1, (f3 b hb).2.1, (f3 b hb).2.2.2.2.1, (f3 b hb).2.2.2.2.2⟩
  cases hf : codeAmong pos ps.toList with
  | none =>
    refine wpAny_genexprCodeX hcode (cd.code hPs ht) (cd.tab hPs) hf fun c' h' tk hx hge hlt hco' _ htab' _ => ?_
    obtain ⟨o1, vs, f1, tf, fl, tg, inF, tx, tt, op, _, _, _, _, _, _, _, _, _, htr, _⟩ := hco'
    exact cont _ h' tk _ hx (Nat.le_trans hge (Nat.le_of_lt hlt)) htab'.2 ⟨_, rfl⟩ htr
  | some cv =>
    refine wpAny_genexprCode_hit hcode (cd.code hPs ht) hf ?_
    exact cont cv s2.heap s2.toks ps (Heap.ExtBut.refl _ _) (Nat.le_refl _) hPs ⟨#[], by simp⟩ ht
end
section
variable {G : Cx} {pins : List (Addr × Obj)} {σ : L2.St} {fp : List Addr} {tn : Nat → Heap → Prop} {W : Nat → Nat → Hp → Prop} {End : Hp → Prop} {J : It} {g g1 : TG} {tt tt1 : TT} {te : TE} {wi1 : TI} {vs : List Nat} {YY : (Nat → Nat → Hp → Prop) → Nat → Nat → V → Hp → Prop}
variable {elt tg iter tg1 iter1 : Expr} {ifs ifs1 : List Expr} {scope : Scope} {pos : Pos} {it : Addr} {A : Around}
theorem seg_start2 (hc : G.calm = true) (hxe : G.xe = fun _ _ => False) (hpn : G.pn = []) (hpi : ∀ p ∈ pins, p.1 ∉ fp) (hex : G.ex = fp)
    (T : Turn G.prog G.w G.K tg J fp it tn) (pg : PG G tg g) (pt : PTs G ifs tt) (pi1 : PI G tg1 iter1 wi1) (pg1 : PG G tg1 g1) (pt1 : PTs G ifs1 tt1) (pe : PE G elt te)
    (hwip : L2.wipe σ vs = σ) (hco : G.env.scope.isCoroutine = false) (hs1 : ∀ x, foldedSetIterable iter1 G.env x = pure x)
    (hov : A.over (.compLoop (GE2 elt tg iter tg1 iter1 ifs ifs1 scope pos) 0 (.ref it) .none G.env) [] = G.A)
    (turn : Turn2 σ vs J g tt wi1 g1 tt1 te W End YY) {m n : Nat} {s₀ s : Shared} {H : Hp} (hmn : m < n) (w : W 0 m H) (aw : Aw G pins σ fp tn 0 H s) :
      Seg (model G.prog G.w) A (fun n s₀ r s₁ => r = .ok .next ∧ GXE G pins σ End n s₀ s₁) (YT (AW2 G pins σ fp tn) (WW2 W) (YL YY)) n s₀
        (.compStart (GE2 elt tg iter tg1 iter1 ifs ifs1 scope pos) 0 (.ref it) .none G.env)
        ((model G.prog G.w).den (.compStart (GE2 elt tg iter tg1 iter1 ifs ifs1 scope pos) 0 (.ref it) .none G.env)) [] s := by
  have loop := fun s₀ => seg_out2 (iter := iter) (scope := scope) (pos := pos) hc hxe hpn hpi hex T pg pt pi1 pg1 pt1 pe hwip hco hs1 hov turn m n 0 s₀ s H hmn w aw
  show Seg _ A _ _ _ s₀ _ ((compStart (GE2 elt tg iter tg1 iter1 ifs ifs1 scope pos) 0 (.ref it) .none G.env).onRaise (leaving G.env)) [] s
  unfold compStart
  rw [Sem.onRaise_eq_wrap]
  show Seg _ A _ _ _ s₀ _ ((ask >>= _).wrap _ _ _ _) [] s
  refine seg_bind_wrap (wpAny_askSetting ?_)
  split
  · exact seg_again rfl (loop s₀)
  · refine seg_bind_wrap (wpAny_rule ?_)
    show Seg _ A _ _ _ s₀ _ ((standAt iter.pos >>= _).wrap _ _ _ _) [] s
    exact seg_bind_wrap (wpAny_standAt (seg_bind_wrap (T.self _ 0 s _ _ aw.st (seg_again rfl (loop s₀)))))
end
theorem over_gen2 {A : Around} {e : Expr} {cs : List Comprehension} {sc : Scope} {p : Pos} {i v : Value} {env : Env} : A.over (.compLoop (.GeneratorExp e cs sc p) 0 i v env) [] = A.deeper env := over_gen
def tTup2 (P : Addr) (wi : TI) (g : TG) (tt : TT) (wi1 : TI) (g1 : TG) (tt1 : TT) (te : TE) (vs : List Nat) : TE := fun σ H Q => wi σ H fun J H1 => GxR.TabG H1 P ∧ ∀ H2, GxR.Tabbed P H1 H2 → ∀ S, H2 S = none →
  ∃ W : Nat → Nat → Hp → Prop, (∃ m, W 0 m (upd H2 S (.lst []))) ∧ Turn2 (L2.wipe σ vs) vs J g tt wi1 g1 tt1 te W (fun H => ∃ acc, H S = some (.lst acc) ∧ ∀ T, H T = none → Q (.ref T) (upd H T (.tup acc)))
    fun W1 j k y H => ∃ acc, H S = some (.lst acc) ∧ acc.length < sizeLine ∧ ∃ k', k' < k ∧ W1 j k' (upd H S (.lst (acc ++ [y])))
section
variable {X : Cx} {elt tg iter tg1 iter1 : Expr} {ifs ifs1 : List Expr} {scope : Scope} {own : List (Str × Nat)} {gpos p pos : Pos} {wi wi1 : TI} {g g1 : TG} {tt tt1 : TT} {te : TE} {c P : Addr} {k : Nat}
theorem pe_tuple2 (hc : X.calm = true) (hr : Room (k + 1) X.A) (hgl : Gl X "tuple") (hm : X.mg "tuple" = none) (TB : GxR.TabB X.base X.mg c P) (hcode : X.env.code = .ref c) (hi : PI X tg iter wi) (ok : BlkOk X.N X.env.scope scope own) (nc : ∀ y ∈ scope.names, y.2 ≠ .cell) (hN : X.N.Nodup)
    (hco : scope.isCoroutine = false) (hdot : scope.names.lookup (".0" : Str) = some NameKind.local)
    (hg : ∀ s H C cl code fp A, Room k A → PG (gex X s H (genEnv scope cl C code builtinsNs X.env) fp A) tg g) (ht : ∀ s H C cl code fp A, Room k A → PTs (gex X s H (genEnv scope cl C code builtinsNs X.env) fp A) ifs tt)
    (hi1 : ∀ s H C cl code fp A, Room k A → PI (gex X s H (genEnv scope cl C code builtinsNs X.env) fp A) tg1 iter1 wi1)
    (hg1 : ∀ s H C cl code fp A, Room k A → PG (gex X s H (genEnv scope cl C code builtinsNs X.env) fp A) tg1 g1) (ht1 : ∀ s H C cl code fp A, Room k A → PTs (gex X s H (genEnv scope cl C code builtinsNs X.env) fp A) ifs1 tt1)
    (he : ∀ s H C cl code fp A, Room k A → PE (gex X s H (genEnv scope cl C code builtinsNs X.env) fp A) elt te)
    (hs : ∀ v, genFold iter X.env v = pure v := by intro _; rfl) (hs1 : ∀ env x, foldedSetIterable iter1 env x = pure x := by intro _ _; rfl)
    (hE : starEach [GE2 elt tg iter tg1 iter1 ifs ifs1 scope gpos] X.env = (false, eval (GE2 elt tg iter tg1 iter1 ifs ifs1 scope gpos) X.env) :: starEach [] X.env := by rfl)
    (hb : bootBuiltins "tuple" = some (.type "tuple") := by decide +kernel) :
    PE X (.Call (.Name "tuple" p) [GE2 elt tg iter tg1 iter1 ifs ifs1 scope gpos] [] pos) (tTup2 P wi g tt wi1 g1 tt1 te (own.map (·.2))) := by
  refine ⟨fun pins s σ H Q I h => ?_⟩
  refine wpAny_Call_Name_kw (ld_blt I hgl hm hb ?_)
  refine PyProof.Rows.callWith_type1 ?_ hE (by rfl)
  rw [hE]
  show wpAny _ _ (spliced ((false, eval (GE2 elt tg iter tg1 iter1 ifs ifs1 scope gpos) X.env) :: backTo pos (starEach [] X.env))) _ _ s
  refine Calls.spliced_cons (gen_made2 hr TB hcode hi ok nc hN hco hdot hs I h fun J H1 H2 a s5 hR tb M => ?_)
  obtain ⟨s4, fp, it, tn, code, gn, go, T, hgs, haf, hgen, aw, back⟩ := M.ex
  have aw' := aw (X.A.in1.in1.in1.in1.deeper (genEnv scope (cloFrom X.env.cells scope.names []) s4.heap.objs.size code builtinsNs X.env)) hr.hd (Around.frames_deeper I.ok.frames)
  obtain ⟨W, ⟨m0, w0⟩, turn⟩ := hR H2 tb s5.heap.objs.size (aw'.inv.hok.fresh (Nat.le_refl _))
  refine Calls.spliced_nil ?_
  have isg : ∀ A σ' H' s', Inv (gex X s4 H2 (genEnv scope (cloFrom X.env.cells scope.names []) s4.heap.objs.size code builtinsNs X.env) fp A) [(a, go)] σ' H' s' → s'.heap.IsGen a gn := fun A σ' H' s' I' =>
    hgen _ (I'.pin (a, go) (by simp)).1
  have rk := room_gen4 hr (genEnv scope (cloFrom X.env.cells scope.names []) s4.heap.objs.size code builtinsNs X.env)
  refine call_tuple_t (G := gex X s4 H2 (genEnv scope (cloFrom X.env.cells scope.names []) s4.heap.objs.size code builtinsNs X.env) fp (X.A.in1.in1.in1.in1.deeper (genEnv scope (cloFrom X.env.cells scope.names []) s4.heap.objs.size code builtinsNs X.env)))
    (A := X.A) (AW := AW2 _ [(a, go)] (L2.wipe σ (own.map (·.2))) fp tn) (W := WW2 W) (x := none) (End := fun H => ∃ acc, H s5.heap.objs.size = some (.lst acc) ∧ ∀ T, H T = none → Q (.ref T) (upd H T (.tup acc))) (Yl := YL fun W1 j k y H => ∃ acc, H s5.heap.objs.size = some (.lst acc) ∧ acc.length < sizeLine ∧ ∃ k', k' < k ∧ W1 j k' (upd H s5.heap.objs.size (.lst (acc ++ [y]))))
    (aw2_ok T) hr.hd hr.depth (isg _) (fun x m y H q => ?_) (fun H ⟨acc, h1, _⟩ => ⟨acc, h1⟩) hgs (n := m0 + 1) (B := m0 + 1) (m := m0) (fun s'' m' H'' hm' w' aw'' => ⟨rfl, ?_⟩) (Nat.lt_succ_self _) w0 aw' (fun s' H' acc vs I' ⟨acc', h1, h2⟩ hS ri hl => ?_)
  · cases x with
    | none => exact q.elim
    | some x => exact q
  · exact seg_start2 (G := gex X s4 H2 (genEnv scope (cloFrom X.env.cells scope.names []) s4.heap.objs.size code builtinsNs X.env) fp (X.A.in1.in1.in1.in1.deeper (genEnv scope (cloFrom X.env.cells scope.names []) s4.heap.objs.size code builtinsNs X.env)))
      hc rfl rfl (fun p hp => by rw [List.mem_singleton.mp hp]; exact haf) rfl T (hg _ _ _ _ _ _ _ rk) (ht _ _ _ _ _ _ _ rk) (hi1 _ _ _ _ _ _ _ rk) (hg1 _ _ _ _ _ _ _ rk) (ht1 _ _ _ _ _ _ _ rk) (he _ _ _ _ _ _ _ rk) (wipe2 _ _) hco (hs1 _) over_gen2 turn hm' w' aw''
  · rw [hS] at h1
    cases h1
    have IX := back _ _ _ _ I'
    exact ⟨.ref s'.heap.objs.size, upd H' s'.heap.objs.size (.tup acc), IX.laid (o := .tup acc) (t' := s'.toks) (fun b o e => Heap.get?_push_of_some _ e) (Nat.le_refl _) ⟨by have := ri.length; omega, vs, ri, _, Heap.get?_push_size _ rfl, rfl, _, rfl⟩, rfl, h2 _ (IX.hok.fresh (Nat.le_refl _))⟩
end
end GX

set_option Elab.async false
set_option linter.all false
set_option autoImplicit false
set_option maxRecDepth 100000
/-! DT4: tuple(e for x in xs for y in ys), over data. -/
namespace DL
open PySem PySem.Spec PyProof.Rows L2
def dlen : D → Nat
  | .tup xs => xs.length
  | .lst xs => xs.length
  | _ => 0
def in2 (g1 : MG) (me : ME) (b : DEnv) : List D → List D → (List D → Prop) → Prop
  | [], acc, k => k acc
  | d :: ds, acc, k => g1 d b fun e1 => me e1 fun y _ => acc.length < LN ∧ in2 g1 me b ds (acc ++ [y]) k
def loop2 (g : MG) (mi1 : MI) (g1 : MG) (me : ME) (b : DEnv) (P : List D → Prop) : List D → List D → Prop
  | [], acc => P acc
  | d :: ds, acc => g d b fun e1 => mi1 e1 fun items1 _ => items1.length ≤ dlen d ∧ in2 g1 me b items1 acc (loop2 g mi1 g1 me b P ds)
@[simp] def eTuple2 (mi : MI) (g : MG) (mi1 : MI) (g1 : MG) (me : ME) (vs : List Nat) : ME := fun env P => mi env fun items e1 => loop2 g mi1 g1 me (hide (wipe e1 vs)) (fun acc => P (.tup acc) e1) items []
def meas : List D → Nat
  | [] => 0
  | d :: ds => dlen d + 2 + meas ds
def TIm (K : PySem.W.Frag) (Tb : Addr → Prop) (m : MI) : TI := fun σ H R => ∃ (W : Wd K Tb) (Oc : Addr → Prop) (H0 : Hp) (O : Addr → Prop) (env : DEnv) (P : List D → DEnv → Prop), FR W Oc H0 O H σ env ∧ m env P ∧
  ∀ H' J items env', FR W Oc H0 O H' σ env' → Stab O H H' → Drain K W.Pl O H' J items → P items env' → R J H'
section
variable {X : Cx} {Tb : Addr → Prop} {mi mi1 : MI} {g g1 : MG} {me : ME} {us us1 : List Nat}
theorem IV.pi {tg e : Expr} {m : MI} (h : IV X Tb tg e m) : PI X tg e (TIm X.K Tb m) := by
  obtain ⟨wi, p, h⟩ := h.ex
  exact ⟨fun pins s σ H R I ⟨W, Oc, H0, O, env, P, F, hm, hq⟩ => p.run pins s σ H R I (h W Oc H0 O H σ env R P F hm hq)⟩
variable {elt tg iter tg1 iter1 : Expr} {scope : Scope} {own : List (Str × Nat)} {gpos p pos : Pos} {c Pt : Addr} {k : Nat} {vs : List Nat}
theorem ev_tuple2 (hc : X.calm = true) (hr : Room (k + 1) X.A) (hgl : Gl X "tuple") (hm : X.mg "tuple" = none) (hT : Tb Pt) (TB : GxR.TabB X.base X.mg c Pt) (hcode : X.env.code = .ref c) (hi : IV X Tb tg iter mi) (ok : BlkOk X.N X.env.scope scope own) (nc : ∀ y ∈ scope.names, y.2 ≠ .cell) (hN : X.N.Nodup)
    (hus : ∀ i ∈ us, i ∈ own.map (·.2)) (hus1 : ∀ i ∈ us1, i ∈ own.map (·.2)) (hco : scope.isCoroutine = false) (hdot : scope.names.lookup (".0" : Str) = some NameKind.local)
    (hg : ∀ s H C cl code fp A, Room k A → GV (gxs X scope s H C cl code fp A) Tb tg g us) (hi1 : ∀ s H C cl code fp A, Room k A → IV (gxs X scope s H C cl code fp A) Tb tg1 iter1 mi1)
    (hg1 : ∀ s H C cl code fp A, Room k A → GV (gxs X scope s H C cl code fp A) Tb tg1 g1 us1)
    (he : ∀ s H C cl code fp A, Room k A → EV (gxs X scope s H C cl code fp A) Tb elt me) (hvs : own.map (·.2) = vs := by rfl)
    (hs : ∀ v, genFold iter X.env v = pure v := by intro _; rfl) (hs1 : ∀ env x, foldedSetIterable iter1 env x = pure x := by intro _ _; rfl)
    (hE : starEach [GX.GE2 elt tg iter tg1 iter1 [] [] scope gpos] X.env = (false, eval (GX.GE2 elt tg iter tg1 iter1 [] [] scope gpos) X.env) :: starEach [] X.env := by rfl) :
    EV X Tb (.Call (.Name "tuple" p) [GX.GE2 elt tg iter tg1 iter1 [] [] scope gpos] [] pos) (eTuple2 mi g mi1 g1 me vs) := by
  subst hvs
  obtain ⟨wi, pi, hi⟩ := hi.ex
  refine ⟨_, GX.pe_tuple2 (g := TGm X.K Tb g us) (tt := tYes) (wi1 := TIm X.K Tb mi1) (g1 := TGm X.K Tb g1 us1) (tt1 := tYes) (te := TEm X.K Tb me) hc hr hgl hm TB hcode pi ok nc hN hco hdot (fun s H C cl code fp A r => (hg s H C cl code fp A r).pg) (fun s H C cl code fp A r => pts_nil)
    (fun s H C cl code fp A r => (hi1 s H C cl code fp A r).pi) (fun s H C cl code fp A r => (hg1 s H C cl code fp A r).pg) (fun s H C cl code fp A r => pts_nil) (fun s H C cl code fp A r => (he s H C cl code fp A r).pe) hs hs1 hE,
    fun W Oc H0 O H σ env Q P F hm hq => ?_⟩
  refine hi W Oc H0 O H σ env _ _ F hm fun H1 J items e1 F1 s1 dr q1 => ⟨W.tab H1 Pt F1.g hT, fun H2 tb D hD2 => ?_⟩
  have kp0 := tab_keep F1.g hT tb
  have hD : H1 D = none := by
    by_cases z : D = Pt
    · obtain ⟨ps, e, _⟩ := tb.1
      rw [z, e] at hD2; cases hD2
    · rw [← tb.2 D z]; exact hD2
  have nOD : ¬ O D := F1.nO hD
  let O' : Addr → Prop := fun a => O a ∨ a = D
  have hZD : ¬ W.Z D := fun z => by
    obtain ⟨u, q⟩ := W.dom H1 D F1.g z
    rw [hD] at q; cases q
  refine ⟨fun i m H2 => ∃ acc accD, m = meas (items.drop i) ∧ i ≤ items.length ∧ Keep W H1 H2 ∧ H2 D = some (.lst acc) ∧ Rps W O' H2 accD acc ∧ loop2 g mi1 g1 me (hide (DL.wipe e1 (own.map fun (q : Str × Nat) => q.2))) (fun acc => P (.tup acc) e1) (items.drop i) accD,
    ⟨_, [], [], rfl, Nat.zero_le _, kp0.trans (Keep.same kp0.1 (same_upd hD2)), upd_same, rfl, by simpa using q1⟩, ?_⟩
  rintro i m H2 ⟨acc, accD, rfl, hle, kp, hDa, racc, q2⟩
  have mvO : ∀ {H3 : Hp}, Keep W H1 H3 → Mv O H1 O' H3 := fun kp a o e n => ⟨kp.stab F1.zo a o e n, fun z => z.elim n fun z => by rw [z, hD] at e; cases e⟩
  have F2 := F1.keep kp
  have nO' : ∀ {H3 : Hp} {acc : List V}, Keep W H1 H3 → H3 D = some (.lst acc) → ∀ p, H3 p = none → ¬ O' p := fun kp hDa p hp z => by
    rcases z with z | z
    · exact (F1.keep kp).nO hp z
    · rw [z, hDa] at hp; cases hp
  have inn : ∀ {H3 : Hp} {acc : List V}, Keep W H1 H3 → H3 D = some (.lst acc) → FR W O' H3 O' H3 (L2.wipe σ (own.map fun (q : Str × Nat) => q.2)) (hide (DL.wipe e1 (own.map fun (q : Str × Nat) => q.2))) := fun {H3 acc} kp3 hD3 =>
    (F1.keep kp3).inner (O' := O') (fun a h => .inl h) (fun a h => by
      rcases h with h | h
      · exact (F1.keep kp3).dom a h
      · rw [h]; exact ⟨_, hD3⟩) (fun j d v h1 h2 r => by
        obtain ⟨v', e', r'⟩ := F1.slot j _ h1
        rw [h2] at e'
        cases e'
        exact Rep.mv (mvO kp3) r') _
  obtain ⟨dgo, dst⟩ := dr O' H2 (mvO kp) (nO' kp hDa) i
  by_cases hlt : i < items.length
  · rw [List.drop_eq_getElem_cons hlt] at q2
    have hms : meas (items.drop i) = dlen items[i] + 2 + meas (items.drop (i + 1)) := by rw [List.drop_eq_getElem_cons hlt]; rfl
    obtain ⟨go, yl⟩ := dgo items[i] (List.getElem?_eq_getElem hlt)
    refine .inr ⟨go, fun x H3 hy => ?_⟩
    obtain ⟨sm, rx⟩ := yl x H3 hy
    have kp3 : Keep W H1 H3 := kp.trans (Keep.same kp.1 sm)
    have hD3 : H3 D = some (.lst acc) := sm D _ hDa
    simp only [loop2] at q2
    refine ⟨W, O', H3, O', _, items[i], _, inn kp3 hD3, rx, q2, fun H4 σ4 e4 F4 s4 w4 q4 => ⟨(w4 _ hus).trans (wipe_wipe σ _), ?_⟩⟩
    show TIm X.K Tb mi1 σ4 H4 _
    refine ⟨W, O', H3, O', e4, _, F4, q4, fun H5 J1 items1 e5 F5 s5 dr1 ⟨hlen1, q5⟩ => ?_⟩
    have kp5 : Keep W H1 H5 := kp3.trans F5.rt
    have hD5 : H5 D = some (.lst acc) := F5.kept D _ hD3 hZD
    have racc5 : Rps W O' H5 accD acc := Reps.stab ((Stab.of sm).trans (s4.trans s5)) racc
    refine ⟨fun j k H => ∃ acc accD, k = (items1.length - j) + 1 + meas (items.drop (i + 1)) ∧ j ≤ items1.length ∧ Keep W H1 H ∧ Stab O' H5 H ∧ H D = some (.lst acc) ∧ Rps W O' H accD acc ∧
      in2 g1 me (hide (DL.wipe e1 (own.map fun (q : Str × Nat) => q.2))) (items1.drop j) accD (loop2 g mi1 g1 me (hide (DL.wipe e1 (own.map fun (q : Str × Nat) => q.2))) (fun acc => P (.tup acc) e1) (items.drop (i + 1))),
      ⟨_, by rw [hms]; omega, acc, accD, rfl, Nat.zero_le _, kp5, Stab.refl, hD5, racc5, by simpa using q5⟩, ?_⟩
    rintro j k H6 ⟨acc6, accD6, rfl, hle6, kp6, s6, hD6, racc6, q6⟩
    obtain ⟨dgo1, dst1⟩ := dr1 O' H6 (Mv.of s6) (nO' kp6 hD6) j
    by_cases hlt1 : j < items1.length
    · rw [List.drop_eq_getElem_cons hlt1] at q6
      simp only [in2] at q6
      obtain ⟨go1, yl1⟩ := dgo1 items1[j] (List.getElem?_eq_getElem hlt1)
      refine .inr ⟨go1, fun x1 H7 hy1 => ?_⟩
      obtain ⟨sm1, rx1⟩ := yl1 x1 H7 hy1
      have kp7 : Keep W H1 H7 := kp6.trans (Keep.same kp6.1 sm1)
      have hD7 : H7 D = some (.lst acc6) := sm1 D _ hD6
      refine ⟨W, O', H7, O', _, items1[j], _, inn kp7 hD7, rx1, q6, fun H8 σ8 e8 F8 s8 w8 q8 => ⟨(w8 _ hus1).trans (wipe_wipe σ _), ?_⟩⟩
      show TEm X.K Tb me σ8 H8 _
      refine ⟨W, O', H7, O', e8, _, F8, q8, fun H9 y dy e9 F9 s9 ry ⟨hal, q9⟩ => ?_⟩
      have kp9 : Keep W H1 H9 := kp7.trans F9.rt
      have hD9 : H9 D = some (.lst acc6) := F9.kept D _ hD7 hZD
      have st79 : Stab O' H7 H9 := s8.trans s9
      have racc9 : Rps W O' H9 accD6 acc6 := Reps.stab ((Stab.of sm1).trans st79) racc6
      have keepD : ∀ a o, H9 a = some o → a ≠ D → upd H9 D (.lst (acc6 ++ [y])) a = some o := fun a o e n => by rw [upd_ne n]; exact e
      have st9 : Stab O' H9 (upd H9 D (.lst (acc6 ++ [y]))) := fun a o e n => keepD a o e fun z => n (.inr z)
      have gl : W.G (upd H9 D (.lst (acc6 ++ [y]))) := W.loc H9 _ (fun a z => upd_ne fun q => hZD (q ▸ z)) F9.g
      refine ⟨acc6, hD9, ?_, _, ?_, acc6 ++ [y], accD6 ++ [dy], rfl, hlt1, ⟨gl, fun a o e n => ?_⟩, ((s6.trans (Stab.of sm1)).trans st79).trans st9, upd_same, Reps.stab st9 (racc9.app (Reps.one ry)), q9⟩
      · have := racc6.length
        rw [this, ← ln_eq]
        exact hal
      · omega
      · exact keepD a o (kp9.2 a o e n) fun z => by rw [z, hD] at e; cases e
    · have e : j = items1.length := by omega
      subst e
      rw [List.drop_length] at q6
      exact .inl ⟨dst1 (Nat.le_refl _), _, by omega, acc6, accD6, rfl, hlt, kp6, hD6, racc6, q6⟩
  · have e : i = items.length := by omega
    subst e
    rw [List.drop_length] at q2
    refine .inl ⟨dst (Nat.le_refl _), acc, hDa, fun T hT0 => ?_⟩
    have racc' : Rps W O H2 accD acc := Reps.weak (fun a h => .inl h) racc
    exact hq _ _ (.tup accD) e1 (F2.same (same_upd hT0)) ((s1.trans (kp.stab F1.zo)).trans (Stab.of (same_upd hT0))) (new_tup F2 racc' hT0) q2
/-- rows laid end to end -/
theorem flat_loop {i j : Nat} (hij : i ≠ j) {b : DEnv} (hi : i < b.length) (hj : j < b.length) (P : List D → Prop) : ∀ (rows : List (List D)) (acc : List D), acc.length + rows.flatten.length ≤ LN → P (acc ++ rows.flatten) →
    loop2 (gName i) (iSeq (eVar i)) (gName j) (eVar j) b P (rows.map D.tup) acc
  | [], acc, _, h => by simpa [loop2] using h
  | r :: rows, acc, hl, h => by
    have ih := flat_loop hij hi hj P rows
    simp only [List.map_cons, loop2]
    simp [hi, dlen]
    have key : ∀ (xs : List D) (acc : List D), acc.length + xs.length + rows.flatten.length ≤ LN → P (acc ++ xs ++ rows.flatten) → in2 (gName j) (eVar j) b xs acc (loop2 (gName i) (iSeq (eVar i)) (gName j) (eVar j) b P (rows.map D.tup)) := by
      intro xs
      induction xs with
      | nil =>
        intro acc h1 h2
        simp only [in2]
        exact ih acc (by simpa using h1) (by simpa using h2)
      | cons x xs ihx =>
        intro acc h1 h2
        simp only [in2]
        simp [hj]
        have h1' : acc.length + (xs.length + 1) + rows.flatten.length ≤ 16777216 := h1
        exact ⟨by omega, ihx _ (by simp at h1' ⊢; omega) (by simpa using h2)⟩
    exact key r acc (by simp at hl ⊢; omega) (by simpa using h)
end
end DL

set_option Elab.async false
set_option linter.all false
set_option autoImplicit false
set_option maxRecDepth 100000
/-! DC9: the layers of free constraints. -/
namespace DL
open PySem (Str)
/-! ### walks -/
theorem all_map {α : Type} {g : MG} {t : MT} {e : ME} {b : DEnv} {P : Bool → Prop} (f : α → D) (p : α → Bool) {xs : List α}
    (h1 : ∀ x, x ∈ xs → ∀ L : Prop, (if p x = true then L else P false) → genTurn g t e b (yAll P) (f x) L) (h : P (xs.all p)) : allLoop g t e b P (xs.map f) := by
  induction xs with
  | nil => exact h
  | cons d ds ih =>
    refine h1 d (List.mem_cons_self ..) _ ?_
    rw [List.all_cons] at h
    by_cases hp : p d = true
    · rw [if_pos hp]
      exact ih (fun d hd => h1 d (List.mem_cons_of_mem _ hd)) (by simpa [hp] using h)
    · rw [if_neg hp]
      simpa [hp] using h
theorem any_map {α : Type} {g : MG} {t : MT} {e : ME} {b : DEnv} {P : Bool → Prop} (f : α → D) (p : α → Bool) {xs : List α}
    (h1 : ∀ x, x ∈ xs → ∀ L : Prop, (if p x = true then P true else L) → genTurn g t e b (yAny P) (f x) L) (h : P (xs.any p)) : anyLoop g t e b P (xs.map f) := by
  induction xs with
  | nil => exact h
  | cons d ds ih =>
    refine h1 d (List.mem_cons_self ..) _ ?_
    rw [List.any_cons] at h
    by_cases hp : p d = true
    · rw [if_pos hp]
      simpa [hp] using h
    · rw [if_neg hp]
      exact ih (fun d hd => h1 d (List.mem_cons_of_mem _ hd)) (by simpa [hp] using h)
/-! ### layers -/
def freeC (rows : List (List Int)) (rest left : List Nat) : List Nat := rest.filter fun c => left.all fun k => decide (0 ≤ at0 (rowAt rows k) c)
def restC (rest fr : List Nat) : List Nat := rest.filter fun c => !decide (c ∈ fr)
def leftC (rows : List (List Int)) (left fr : List Nat) : List Nat := left.filter fun k => !(fr.any fun c => decide (at0 (rowAt rows k) c = 1))
def peel (rows : List (List Int)) : Nat → List Nat → List Nat → List (List Nat) × List Nat
  | 0, _, _ => ([], [])
  | f + 1, rest, left => if rest = [] then ([], []) else if freeC rows rest left = [] then ([], left) else
    (freeC rows rest left :: (peel rows f (restC rest (freeC rows rest left)) (leftC rows left (freeC rows rest left))).1, (peel rows f (restC rest (freeC rows rest left)) (leftC rows left (freeC rows rest left))).2)
def peelAll (n : Nat) (rows : List (List Int)) : List (List Nat) × List Nat := peel rows n (List.range n) (List.range rows.length)
theorem freeC_sub {rows : List (List Int)} {rest left : List Nat} : ∀ c ∈ freeC rows rest left, c ∈ rest := fun c h => (List.mem_filter.mp h).1
theorem restC_lt {rest fr : List Nat} (h : fr ≠ []) (hs : ∀ c ∈ fr, c ∈ rest) : (restC rest fr).length < rest.length := by
  obtain ⟨c, r, rfl⟩ := List.exists_cons_of_ne_nil h
  unfold restC
  refine List.length_filter_lt_length_iff_exists.mpr ⟨c, hs c (by simp), by simp⟩
theorem peel_len (rows : List (List Int)) : ∀ (f : Nat) (rest left : List Nat), (peel rows f rest left).1.flatten.length ≤ rest.length ∧ (peel rows f rest left).1.length ≤ rest.length
  | 0, rest, left => by simp [peel]
  | f + 1, rest, left => by
    simp only [peel]
    by_cases h1 : rest = []
    · rw [if_pos h1]; simp
    · rw [if_neg h1]
      by_cases h2 : freeC rows rest left = []
      · rw [if_pos h2]; simp
      · rw [if_neg h2]
        obtain ⟨i1, i2⟩ := peel_len rows f (restC rest (freeC rows rest left)) (leftC rows left (freeC rows rest left))
        have hlt := restC_lt h2 freeC_sub
        refine ⟨?_, by simp only [List.length_cons]; omega⟩
        simp only [List.flatten_cons, List.length_append]
        have e : (freeC rows rest left).length + (restC rest (freeC rows rest left)).length = rest.length := by
          have e2 : restC rest (freeC rows rest left) = rest.filter fun c => !(left.all fun k => decide (0 ≤ at0 (rowAt rows k) c)) := by
            unfold restC
            refine List.filter_congr fun c hc => ?_
            congr 1
            rw [Bool.eq_iff_iff, decide_eq_true_iff]
            unfold freeC
            rw [List.mem_filter]
            exact ⟨fun h => h.2, fun h => ⟨hc, h⟩⟩
          rw [e2]
          unfold freeC
          have := (List.filter_append_perm (fun c => left.all fun k => decide (0 ≤ at0 (rowAt rows k) c)) rest).length_eq
          rw [List.length_append] at this
          exact this
        omega
theorem peel_left (rows : List (List Int)) : ∀ (f : Nat) (rest left : List Nat), (peel rows f rest left).2.Sublist left
  | 0, rest, left => by simp [peel]
  | f + 1, rest, left => by
    simp only [peel]
    by_cases h1 : rest = []
    · rw [if_pos h1]; simp
    · rw [if_neg h1]
      by_cases h2 : freeC rows rest left = []
      · rw [if_pos h2]; simp
      · rw [if_neg h2]
        exact (peel_left rows f _ _).trans List.filter_sublist
theorem meets_skip : ∀ (a b : List Nat) (row : List Int), (∀ c ∈ a, at0 row c = 0) → meets (a ++ b) row = meets b row
  | [], _, _, _ => rfl
  | c :: a, b, row, h => by
    rw [List.cons_append]
    simp only [meets, h c (List.mem_cons_self ..), if_true]
    exact meets_skip a b row fun c hc => h c (List.mem_cons_of_mem _ hc)
theorem meets_hit {n : Nat} {row : List Int} (hr : Cmpr n row) : ∀ (a b : List Nat), (∀ c ∈ a, 0 ≤ at0 row c) → (∃ c ∈ a, at0 row c = 1) → meets (a ++ b) row = true
  | [], _, _, h => by obtain ⟨c, h, _⟩ := h; simp at h
  | c :: a, b, h0, h => by
    rw [List.cons_append]
    simp only [meets]
    by_cases hc : at0 row c = 0
    · rw [if_pos hc]
      refine meets_hit hr a b (fun c hc => h0 c (List.mem_cons_of_mem _ hc)) ?_
      obtain ⟨c', hm, e⟩ := h
      rcases List.mem_cons.mp hm with rfl | hm
      · rw [hc] at e; cases e
      · exact ⟨c', hm, e⟩
    · rw [if_neg hc]
      have := h0 c (List.mem_cons_self ..)
      rcases at0_sgn hr c with e | e | e
      · omega
      · exact absurd e hc
      · rw [e]; rfl
/-- all are peeled: the layers make a ranking that meets all -/
theorem peel_ok {n : Nat} {rows : List (List Int)} (hc : ∀ c ∈ rows, Cmpr n c) : ∀ (f : Nat) (rest left : List Nat), rest.length ≤ f → (∀ k ∈ left, k < rows.length) → (peel rows f rest left).2 = [] →
    (peel rows f rest left).1.flatten.Perm rest ∧ ∀ k ∈ left, meets (peel rows f rest left).1.flatten (rowAt rows k) = true
  | 0, rest, left, hf, _, _ => by
    have : rest = [] := List.eq_nil_of_length_eq_zero (by omega)
    subst this
    simp [peel, meets]
  | f + 1, rest, left, hf, hl, h => by
    simp only [peel] at h ⊢
    by_cases h1 : rest = []
    · rw [if_pos h1]; subst h1; simp [meets]
    · rw [if_neg h1] at h ⊢
      by_cases h2 : freeC rows rest left = []
      · rw [if_pos h2] at h
        have : left = [] := h
        subst this
        have : freeC rows rest [] = rest := by unfold freeC; rw [List.filter_eq_self]; simp
        rw [this] at h2
        exact absurd h2 h1
      · rw [if_neg h2] at h ⊢
        have hlt := restC_lt h2 freeC_sub
        obtain ⟨i1, i2⟩ := peel_ok hc f (restC rest (freeC rows rest left)) (leftC rows left (freeC rows rest left)) (by omega) (fun k hk => hl k (List.mem_filter.mp hk).1) h
        simp only [List.flatten_cons]
        refine ⟨?_, fun k hk => ?_⟩
        · refine (List.Perm.append_left _ i1).trans ?_
          have e2 : restC rest (freeC rows rest left) = rest.filter fun c => !(left.all fun k => decide (0 ≤ at0 (rowAt rows k) c)) := by
            unfold restC
            refine List.filter_congr fun c hc => ?_
            congr 1
            rw [Bool.eq_iff_iff, decide_eq_true_iff]
            unfold freeC
            rw [List.mem_filter]
            exact ⟨fun h => h.2, fun h => ⟨hc, h⟩⟩
          rw [e2]
          exact List.filter_append_perm _ _
        · have hrow := hc _ (rowAt_mem rows k (hl k hk))
          have hpos : ∀ c ∈ freeC rows rest left, 0 ≤ at0 (rowAt rows k) c := fun c hm => by
            have := (List.mem_filter.mp hm).2
            rw [List.all_eq_true] at this
            exact of_decide_eq_true (this k hk)
          by_cases hany : (freeC rows rest left).any (fun c => decide (at0 (rowAt rows k) c = 1)) = true
          · rw [List.any_eq_true] at hany
            obtain ⟨c, hm, e⟩ := hany
            exact meets_hit hrow _ _ hpos ⟨c, hm, of_decide_eq_true e⟩
          · rw [meets_skip _ _ _ fun c hm => ?_]
            · exact i2 k (List.mem_filter.mpr ⟨hk, by simpa using hany⟩)
            · have h0 := hpos c hm
              have h3 : ¬ at0 (rowAt rows k) c = 1 := fun e => hany (List.any_eq_true.mpr ⟨c, hm, decide_eq_true e⟩)
              rcases at0_sgn hrow c with e | e | e
              · omega
              · exact e
              · exact absurd e h3
/-- not all are peeled: what is left is hopeless -/
theorem peel_stuck {n : Nat} {rows : List (List Int)} : ∀ (f : Nat) (rest left : List Nat), (∀ c ∈ rest, c < n) → (∀ c, c < n → c ∉ rest → ∀ k ∈ left, at0 (rowAt rows k) c ≠ 1) → (peel rows f rest left).2 ≠ [] →
    ∃ rest', rest' ≠ [] ∧ (∀ c ∈ rest', c < n) ∧ (∀ c ∈ rest', ∃ k ∈ (peel rows f rest left).2, at0 (rowAt rows k) c < 0) ∧ ∀ c, c < n → c ∉ rest' → ∀ k ∈ (peel rows f rest left).2, at0 (rowAt rows k) c ≠ 1
  | 0, _, _, _, _, h => by simp [peel] at h
  | f + 1, rest, left, hr, hn, h => by
    simp only [peel] at h ⊢
    by_cases h1 : rest = []
    · rw [if_pos h1] at h; simp at h
    · rw [if_neg h1] at h ⊢
      by_cases h2 : freeC rows rest left = []
      · rw [if_pos h2] at h ⊢
        refine ⟨rest, h1, hr, fun c hcm => ?_, hn⟩
        have : ¬ (left.all fun k => decide (0 ≤ at0 (rowAt rows k) c)) = true := fun z => by
          have : c ∈ freeC rows rest left := List.mem_filter.mpr ⟨hcm, z⟩
          rw [h2] at this; simp at this
        simp at this
        obtain ⟨k, hk, e⟩ := this
        exact ⟨k, hk, e⟩
      · rw [if_neg h2] at h ⊢
        refine peel_stuck f _ _ (fun c hcm => hr c (List.mem_filter.mp hcm).1) (fun c hcn hcr k hk => ?_) h
        obtain ⟨hk1, hk2⟩ := List.mem_filter.mp hk
        by_cases hcf : c ∈ freeC rows rest left
        · intro e
          simp at hk2
          exact hk2 c hcf e
        · refine hn c hcn (fun z => hcr (List.mem_filter.mpr ⟨z, by simpa using hcf⟩)) k hk1
theorem asc_sorted {pl : List Nat} (h : pl.Pairwise (· < ·)) : asc pl = true := by
  unfold asc
  rw [List.all_eq_true]
  intro k hk
  have hk := List.mem_range.mp hk
  rw [decide_eq_true_iff]
  have h1 : k < pl.length := by omega
  have h2 : k + 1 < pl.length := by omega
  have := List.pairwise_iff_getElem.mp h k (k + 1) h1 h2 (by omega)
  simpa [List.getD_eq_getElem?_getD, h1, h2] using this
theorem picked_at {rows : List (List Int)} {pl : List Nat} {c : Nat} {x : Int} : x ∈ colOf (picked rows pl) c ↔ ∃ k ∈ pl, at0 (rowAt rows k) c = x := by
  unfold colOf picked
  rw [List.map_map, List.mem_map]
  rfl
theorem hop_iff {row : List Int} : hop row = true ↔ -1 ∈ row ∧ 1 ∉ row := by simp [hop]
theorem peel_clash {n : Nat} {rows : List (List Int)} (hc : ∀ c ∈ rows, Cmpr n c) (h : (peelAll n rows).2 ≠ []) : ClashP n rows (tN (peelAll n rows).2) := by
  have hs := peel_left rows n (List.range n) (List.range rows.length)
  obtain ⟨rest', r1, r2, r3, r4⟩ := peel_stuck (rows := rows) n (List.range n) (List.range rows.length) (fun c hc => List.mem_range.mp hc) (fun c hcn hcr => absurd (List.mem_range.mpr hcn) hcr) h
  have hlt : ∀ k ∈ (peelAll n rows).2, k < rows.length := fun k hk => List.mem_range.mp (hs.mem hk)
  refine ⟨_, rfl, List.length_pos_iff.mpr h, hlt, asc_sorted (List.Pairwise.sublist hs List.pairwise_lt_range), hop_iff.mpr ⟨?_, ?_⟩⟩
  · obtain ⟨c, rr, rfl⟩ := List.exists_cons_of_ne_nil r1
    have hcn := r2 c (List.mem_cons_self ..)
    obtain ⟨k, hk, e⟩ := r3 c (List.mem_cons_self ..)
    refine List.mem_map.mpr ⟨c, List.mem_range.mpr hcn, ?_⟩
    have : -1 ∈ colOf (picked rows (peelAll n rows).2) c := picked_at.mpr ⟨k, hk, by
      rcases at0_sgn (hc _ (rowAt_mem rows k (hlt k hk))) c with e | e | e <;> omega⟩
    unfold fusedN
    rw [if_pos this]
  · intro hm
    obtain ⟨c, hcr, e⟩ := List.mem_map.mp hm
    have hcn := List.mem_range.mp hcr
    by_cases hcr' : c ∈ rest'
    · obtain ⟨k, hk, e2⟩ := r3 c hcr'
      have : -1 ∈ colOf (picked rows (peelAll n rows).2) c := picked_at.mpr ⟨k, hk, by
        rcases at0_sgn (hc _ (rowAt_mem rows k (hlt k hk))) c with e | e | e <;> omega⟩
      unfold fusedN at e
      rw [if_pos this] at e
      cases e
    · have : 1 ∉ colOf (picked rows (peelAll n rows).2) c := fun z => by
        obtain ⟨k, hk, e2⟩ := picked_at.mp z
        exact r4 c hcn hcr' k hk e2
      unfold fusedN at e
      rw [if_neg this] at e
      split at e <;> cases e
theorem peel_ranking {n : Nat} {rows : List (List Int)} (hc : ∀ c ∈ rows, Cmpr n c) (h : (peelAll n rows).2 = []) : (peelAll n rows).1.flatten.Perm (List.range n) ∧ rows.all (meets (peelAll n rows).1.flatten) = true := by
  obtain ⟨h1, h2⟩ := peel_ok hc n (List.range n) (List.range rows.length) (by simp) (fun k hk => List.mem_range.mp hk) h
  refine ⟨h1, List.all_eq_true.mpr fun row hm => ?_⟩
  obtain ⟨k, hk, e⟩ := List.mem_iff_getElem.mp hm
  have := h2 k (List.mem_range.mpr hk)
  have e2 : rowAt rows k = row := by simp [rowAt, List.getD_eq_getElem?_getD, hk, e]
  rw [e2] at this
  exact this
/-- a hopeless fusion: no ranking meets all -/
theorem hopeless_no {n : Nat} {rows : List (List Int)} (hc : ∀ c ∈ rows, Cmpr n c) (h1 : 1 ∉ fusion n rows) : ∀ (r : List Nat) (x : Nat), (∀ y ∈ r, y < n) → x ∈ r → fusedN (colOf rows x) = -1 → (∀ c ∈ rows, meets r c = true) → False
  | [], x, _, hx, _, _ => by simp at hx
  | y :: r, x, hr, hx, hf, hm => by
    have hy := hr y (List.mem_cons_self ..)
    have hn1 : fusedN (colOf rows y) ≠ 1 := fun e => h1 (List.mem_map.mpr ⟨y, List.mem_range.mpr hy, e⟩)
    by_cases hy1 : -1 ∈ colOf rows y
    · obtain ⟨c, hcm, e⟩ := List.mem_map.mp hy1
      have := hm c hcm
      simp only [meets, e] at this
      simp at this
    · have hy2 : 1 ∉ colOf rows y := fun z => hn1 (by simp [fusedN, hy1, z])
      have hz : ∀ c ∈ rows, at0 c y = 0 := fun c hcm => by
        rcases at0_sgn (hc c hcm) y with e | e | e
        · exact absurd (List.mem_map.mpr ⟨c, hcm, e⟩) hy1
        · exact e
        · exact absurd (List.mem_map.mpr ⟨c, hcm, e⟩) hy2
      have hxr : x ∈ r := by
        rcases List.mem_cons.mp hx with e | e
        · subst e
          exact absurd hf (by simp [fusedN, hy1, hy2])
        · exact e
      refine hopeless_no hc h1 r x (fun z hz => hr z (List.mem_cons_of_mem _ hz)) hxr hf fun c hcm => ?_
      have := hm c hcm
      simpa [meets, hz c hcm] using this
theorem clash_no {n : Nat} {rows : List (List Int)} (hc : ∀ c ∈ rows, Cmpr n c) {d : D} (h : ClashP n rows d) {r : List Nat} (hr : r.Perm (List.range n)) : rows.all (meets r) = false := by
  obtain ⟨pl, _, _, hp, _, hh⟩ := h
  rw [Bool.eq_false_iff]
  intro hm
  obtain ⟨h1, h2⟩ := hop_iff.mp hh
  obtain ⟨x, hx, e⟩ := List.mem_map.mp h1
  have sub : ∀ c ∈ picked rows pl, c ∈ rows := fun c hcm => by
    obtain ⟨k, hk, rfl⟩ := List.mem_map.mp hcm
    have := hp k hk
    simp [List.getD_eq_getElem?_getD, this]
  exact hopeless_no (fun c hcm => hc c (sub c hcm)) h2 r x (perm_lt hr) (hr.mem_iff.mpr hx) e fun c hcm => List.all_eq_true.mp hm c (sub c hcm)
theorem nodup_sub : ∀ (r s : List Nat), r.Nodup → (∀ x ∈ r, x ∈ s) → r.length ≤ s.length
  | [], _, _, _ => Nat.zero_le _
  | x :: r, s, hd, hs => by
    have h1 := List.nodup_cons.mp hd
    have hx := hs x (List.mem_cons_self ..)
    have h2 := nodup_sub r (s.erase x) h1.2 fun y hy => (List.mem_erase_of_ne (fun (z : y = x) => h1.1 (z ▸ hy))).mpr (hs y (List.mem_cons_of_mem _ hy))
    rw [List.length_erase_of_mem hx] at h2
    have := List.length_pos_of_mem hx
    rw [List.length_cons]; omega
/-- a list of all numbers below n -/
theorem all_in {n : Nat} {r : List Nat} (hl : r.length = n) (hd : r.Nodup) (hr : ∀ x ∈ r, x < n) : ∀ x, x < n → x ∈ r := by
  intro x hx
  refine Decidable.byContradiction fun z => ?_
  have h := nodup_sub (x :: r) (List.range n) (List.nodup_cons.mpr ⟨z, hd⟩) fun y hy => by
    rcases List.mem_cons.mp hy with e | e
    · rw [e]; exact List.mem_range.mpr hx
    · exact List.mem_range.mpr (hr y e)
  rw [List.length_cons, List.length_range] at h
  omega
theorem rk_range {n : Nat} {r : List Nat} (h : r ∈ rk n n) : r.Perm (List.range n) := by
  obtain ⟨h1, h2, h3⟩ := rk_mem h
  refine List.perm_iff_count.mpr fun a => ?_
  rw [h2.count, List.nodup_range.count]
  by_cases ha : a < n
  · rw [if_pos (all_in h1 h2 h3 a ha), if_pos (List.mem_range.mpr ha)]
  · rw [if_neg fun z => ha (h3 a z), if_neg fun z => ha (List.mem_range.mp z)]
/-- all rankings are there -/
theorem rk_all {n : Nat} : ∀ (k : Nat) (r : List Nat), r.length = k → r.Nodup → (∀ x ∈ r, x < n) → r ∈ rk n k
  | 0, r, hl, _, _ => by
    rw [List.eq_nil_of_length_eq_zero hl]; simp [rk]
  | k + 1, r, hl, hd, hr => by
    have hne : r ≠ [] := fun e => by rw [e] at hl; cases hl
    have e := List.dropLast_concat_getLast hne
    have hd2 : (r.dropLast ++ [r.getLast hne]).Nodup := by rw [e]; exact hd
    rw [List.nodup_append] at hd2
    rw [rk, List.mem_flatMap]
    refine ⟨r.dropLast, rk_all k r.dropLast (by rw [List.length_dropLast]; omega) hd2.1 (fun x hx => hr x ((List.dropLast_sublist r).mem hx)), ?_⟩
    refine List.mem_map.mpr ⟨r.getLast hne, List.mem_filter.mpr ⟨List.mem_range.mpr (hr _ (List.getLast_mem hne)), ?_⟩, e⟩
    simp
    intro z
    exact hd2.2.2 _ z _ (by simp) rfl
theorem rk_perm {n : Nat} {r : List Nat} (h : r.Perm (List.range n)) : r ∈ rk n n := rk_all n r (by simpa using h.length_eq) (h.nodup_iff.mpr List.nodup_range) (perm_lt h)
theorem met_iff {n : Nat} {rows : List (List Int)} (hc : ∀ c ∈ rows, Cmpr n c) : ((rk n n).filter fun r => rows.all (meets r)) ≠ [] ↔ (peelAll n rows).2 = [] := by
  constructor
  · intro h
    refine Decidable.byContradiction fun z => h ?_
    rw [List.filter_eq_nil_iff]
    intro r hr
    have hp : r.Perm (List.range n) := rk_range hr
    rw [clash_no hc (peel_clash hc z) hp]; simp
  · intro h e
    obtain ⟨h1, h2⟩ := peel_ranking hc h
    have := List.filter_eq_nil_iff.mp e _ (rk_perm h1)
    exact this h2
/-! ### the defs -/
def F_peeled : FD := fun ds P => ∃ (n : Nat) (rows : List (List Int)), ds = [dN n, lI rows] ∧ n ≤ 1000 ∧ rows.length ≤ 1000 ∧ (∀ c ∈ rows, c.length = n) ∧ P (.tup [.lst ((peelAll n rows).1.map tN), .lst ((peelAll n rows).2.map dN)])
def F_flat : FD := fun ds P => ∃ layers : List (List Nat), ds = [.lst (layers.map tN)] ∧ layers.flatten.length ≤ 1000 ∧ P (tN layers.flatten)
noncomputable def paperOf (n : Nat) (rows : List (List Int)) : D := if (peelAll n rows).2 = [] then .tup [.str "ranking", tN (peelAll n rows).1.flatten] else .tup [.str "clash", tN (peelAll n rows).2]
def F_ranking_paper : FD := fun ds P => ∃ (n : Nat) (rows : List (List Int)), ds = [dN n, lI rows] ∧ n ≤ 1000 ∧ rows.length ≤ 1000 ∧ (∀ c ∈ rows, c.length = n) ∧ P (paperOf n rows)
def F_is_consistent : FD := fun ds P => ∃ (n : Nat) (rows : List (List Int)), ds = [dN n, lI rows] ∧ n ≤ 1000 ∧ rows.length ≤ 1000 ∧ (∀ c ∈ rows, c.length = n) ∧ P (.bl (decide ((peelAll n rows).2 = [])))
def mb_peeled_1 : MS :=
  (sFrz 2 (sRet (eTup (aCons (eVar 2) (aCons (eFr (fLst aNil)) aNil)))))
def mb_peeled : MS :=
  (sSeq (sSetOwn 2 (fLst aNil))
    (sSeq (sSet 3 (eFr (fListR1 (eVar 0))))
    (sSeq (sSet 4 (eFr (fListR1 (eCall fLen (aCons (eVar 1) aNil)))))
    (sSeq (sWhile (tVal (eBin oGt (eCall fLen (aCons (eVar 3) aNil)) (eC (.int 0))))
    (sSeq (sSet 7 (eFr (fLc (iSeq (eVar 3)) (DL.gName 5) (tVal (eAllG (iSeq (eVar 4)) (DL.gName 6) tNone (eBin oGe (eBin oIx (eBin oIx (eVar 1) (eVar 6)) (eVar 5)) (eC (.int 0))) [6])) (eVar 5) [5])))
    (sSeq (sIf (tVal (eBin oEq (eCall fLen (aCons (eVar 7) aNil)) (eC (.int 0)))) (sFrz 2 (sRet (eTup (aCons (eVar 2) (aCons (eVar 4) aNil))))) sNop)
    (sSeq (sAppend 2 (eCall fTuple (aCons (eVar 7) aNil)))
    (sSeq (sSet 3 (eFr (fLc (iSeq (eVar 3)) (DL.gName 5) (tVal (eBin oNotIn (eVar 5) (eVar 7))) (eVar 5) [5])))
    (sSet 4 (eFr (fLc (iSeq (eVar 4)) (DL.gName 6) (DL.tNot (tVal (eAnyG (iSeq (eVar 7)) (DL.gName 5) tNone (eBin oEq (eBin oIx (eBin oIx (eVar 1) (eVar 6)) (eVar 5)) (eC (.int 1))) [5]))) (eVar 6) [6]))))))))
    mb_peeled_1))))

def mb_flat : MS :=
  (sRet (eTuple2 (iSeq (eVar 0)) (DL.gName 1) (iSeq (eVar 1)) (DL.gName 2) (eVar 2) [1, 2]))

def mb_ranking_paper : MS :=
  (sSeq (sAsg (DL.gTup (DL.gCons (DL.gName 2) (DL.gCons (DL.gName 3) DL.gNil))) (eCall F_peeled (aCons (eVar 0) (aCons (eVar 1) aNil))))
    (sSeq (sIf (tVal (eBin oGt (eCall fLen (aCons (eVar 3) aNil)) (eC (.int 0)))) (sRet (eTup (aCons (eC (.str "clash")) (aCons (eCall fTuple (aCons (eVar 3) aNil)) aNil)))) sNop)
    (sRet (eTup (aCons (eC (.str "ranking")) (aCons (eCall F_flat (aCons (eVar 2) aNil)) aNil))))))

def mb_is_consistent : MS :=
  (sRet (eBin oEq (eCall fLen (aCons (eBin oIx (eCall F_peeled (aCons (eVar 0) (aCons (eVar 1) aNil))) (eC (.int 1))) aNil)) (eC (.int 0))))

theorem peel_fix (rows : List (List Int)) {f : Nat} {left : List Nat} : peel rows f [] left = ([], []) := by cases f <;> simp [peel]
theorem rowAt_eq {rows : List (List Int)} {k : Nat} (h : k < rows.length) : atI (rows.map tI) (k : Int) = some (tI (rowAt rows k)) := by
  rw [atI_lI h]; simp [rowAt, List.getD_eq_getElem?_getD, h]
theorem hF_peeled : ∀ ds Q, F_peeled ds Q → ds.length = 2 ∧ mb_peeled { nx := fun _ => Q .non, rt := Q } (dstart 8 ds) := by
  rintro ds Q ⟨n, rows, rfl, hn, hl, hc, hP⟩
  refine ⟨rfl, ?_⟩
  have row_at : ∀ k c, k < rows.length → c < n → atI (rows.map tI) (k : Int) = some (tI (rowAt rows k)) ∧ atI ((rowAt rows k).map D.int) (c : Int) = some (.int (at0 (rowAt rows k) c)) := fun k c hk hcn =>
    ⟨rowAt_eq hk, atI_tI (by rw [hc _ (rowAt_mem rows k hk)]; exact hcn)⟩
  simp [mb_peeled, dstart]
  refine ⟨by omega, by omega, while_ind (fun m env => ∃ (f : Nat) (acc : List (List Nat)) (rest left : List Nat) (e5 e6 e7 : Option Sl), rest.length = m ∧ m ≤ f ∧ acc.length + m ≤ n ∧ (∀ c ∈ rest, c < n) ∧ (∀ k ∈ left, k < rows.length) ∧ left.length ≤ rows.length ∧
    env = [some (.val (dN n)), some (.val (lI rows)), some (.own (acc.map tN)), some (.val (.lst (rest.map dN))), some (.val (.lst (left.map dN))), e5, e6, e7] ∧
    Q (.tup [.lst ((acc ++ (peel rows f rest left).1).map tN), .lst ((peel rows f rest left).2.map dN)])) ?_ n _ ⟨n, [], List.range n, List.range rows.length, _, _, _, by simp, Nat.le_refl _, by simp, fun c h => List.mem_range.mp h, fun c h => List.mem_range.mp h, by simp, by rw [ints0, ints0]; rfl, by simpa [peelAll] using hP⟩⟩
  rintro m Kk env hK ⟨f, acc, rest, left, e5, e6, e7, hm, hmf, ham, hr, hlf, hll, rfl, q⟩
  by_cases h0 : rest.length = 0
  · have : rest = [] := List.eq_nil_of_length_eq_zero h0
    subst this
    rw [peel_fix] at q
    simp [mb_peeled_1] at q ⊢
    exact q
  · have h1 : 0 < rest.length := by omega
    obtain ⟨f, rfl⟩ : ∃ f', f = f' + 1 := ⟨f - 1, by omega⟩
    have hne : ¬ rest = [] := fun e => h0 (by rw [e]; rfl)
    simp [h1]
    refine ⟨by omega, lc_filter dN (fun c => left.all fun k => decide (0 ≤ at0 (rowAt rows k) c)) (fun c hcm Kk1 Kn hL => ?_) _ ?_⟩
    · have hcn := hr c hcm
      simp
      refine all_map dN (fun k => decide (0 ≤ at0 (rowAt rows k) c)) (fun k hk L hL1 => ?_) ?_
      · obtain ⟨x1, x2⟩ := row_at k c (hlf k hk) hcn
        simp [genTurn, yAll, x1, x2] at hL1 ⊢
        exact hL1
      · simpa using hL
    · rw [List.nil_append]
      have hfe : (rest.filter fun c => left.all fun k => decide (0 ≤ at0 (rowAt rows k) c)) = freeC rows rest left := rfl
      rw [hfe]
      have hfs : ∀ c ∈ freeC rows rest left, c ∈ rest := freeC_sub
      simp only [peel, if_neg hne] at q
      generalize freeC rows rest left = fr at q hfs ⊢
      by_cases hf0 : fr = []
      · rw [if_pos hf0] at q
        subst hf0
        simpa using q
      · rw [if_neg hf0] at q
        rw [if_neg (by simpa using hf0)]
        have hlt := restC_lt hf0 hfs
        refine ⟨by omega, by omega, lc_filter dN (fun c => !decide (c ∈ fr)) (fun c hcm K1 Kn hL => ?_) _ ?_⟩
        · simp [plainLN] at hL ⊢
          exact hL
        · rw [List.nil_append]
          refine ⟨by omega, lc_filter dN (fun k => !(fr.any fun c => decide (at0 (rowAt rows k) c = 1))) (fun k hk K1 Kn hL => ?_) _ ?_⟩
          · simp
            refine any_map dN (fun c => decide (at0 (rowAt rows k) c = 1)) (fun c hcm L hL1 => ?_) ?_
            · obtain ⟨x1, x2⟩ := row_at k c (hlf k hk) (hr c (hfs c hcm))
              simp [genTurn, yAny, x1, x2] at hL1 ⊢
              exact hL1
            · cases hh : (fr.any fun c => decide (at0 (rowAt rows k) c = 1)) <;> simpa [hh] using hL
          · refine hK (restC rest fr).length _ (by omega) ⟨f, acc ++ [fr], restC rest fr, leftC rows left fr, e5, e6, _, rfl, by omega, by simp; omega, fun c h => hr c (List.mem_filter.mp h).1, fun k h => hlf k (List.mem_filter.mp h).1, ?_, by simp; exact ⟨rfl, rfl, rfl⟩, by simpa using q⟩
            have := List.length_filter_le (fun k => !(fr.any fun c => decide (at0 (rowAt rows k) c = 1))) left
            unfold leftC; omega
theorem hF_flat : ∀ ds Q, F_flat ds Q → ds.length = 1 ∧ mb_flat { nx := fun _ => Q .non, rt := Q } (dstart 3 ds) := by
  rintro ds Q ⟨layers, rfl, hl, hP⟩
  refine ⟨rfl, ?_⟩
  simp [mb_flat, dstart]
  have e : layers.map tN = (layers.map fun l => l.map dN).map D.tup := by rw [List.map_map]; rfl
  have e2 : (layers.map fun l => l.map dN).flatten = layers.flatten.map dN := by rw [List.map_flatten]
  rw [e]
  refine flat_loop (i := 1) (j := 2) (by omega) (by simp) (by simp) _ _ _ ?_ ?_
  · rw [e2, List.length_map]
    exact Nat.le_trans (Nat.add_le_add_left hl _) (by decide)
  · rw [e2]; exact hP
theorem hF_ranking_paper : ∀ ds Q, F_ranking_paper ds Q → ds.length = 2 ∧ mb_ranking_paper { nx := fun _ => Q .non, rt := Q } (dstart 4 ds) := by
  rintro ds Q ⟨n, rows, rfl, hn, hl, hc, hP⟩
  refine ⟨rfl, ?_⟩
  simp [mb_ranking_paper, dstart]
  refine ⟨n, rows, rfl, hn, hl, hc, ?_⟩
  simp
  unfold paperOf at hP
  by_cases h : (peelAll n rows).2 = []
  · rw [if_pos h] at hP
    simp [h]
    refine ⟨(peelAll n rows).1, rfl, ?_, hP⟩
    have := (peel_len rows n (List.range n) (List.range rows.length)).1
    rw [List.length_range] at this
    unfold peelAll; omega
  · rw [if_neg h] at hP
    have : 0 < (peelAll n rows).2.length := List.length_pos_iff.mpr h
    simp [this]
    exact hP
theorem hF_is_consistent : ∀ ds Q, F_is_consistent ds Q → ds.length = 2 ∧ mb_is_consistent { nx := fun _ => Q .non, rt := Q } (dstart 2 ds) := by
  rintro ds Q ⟨n, rows, rfl, hn, hl, hc, hP⟩
  refine ⟨rfl, ?_⟩
  simp [mb_is_consistent, dstart]
  refine ⟨n, rows, rfl, hn, hl, hc, ?_⟩
  simp
  have e : (((peelAll n rows).2.length : Int) == 0) = decide ((peelAll n rows).2 = []) := by
    rw [Bool.eq_iff_iff]; simp
  rw [e]; exact hP
end DL

set_option Elab.async false
set_option linter.all false
set_option autoImplicit false
set_option maxRecDepth 100000
/-! DCO: the law's own clash. -/
namespace DL
open PySem (Str)
theorem ite_iff {p q : Prop} [Decidable p] [Decidable q] (h : p ↔ q) {a b : Prop} (z : if q then a else b) : if p then a else b := by
  by_cases hq : q
  · rw [if_pos hq] at z; rw [if_pos (h.mpr hq)]; exact z
  · rw [if_neg hq] at z; rw [if_neg fun y => hq (h.mp y)]; exact z
def F__law_own_clash : FD := fun ds P => ∃ (n : Nat) (rows : List (List Int)), ds = [dN n, lI rows] ∧ n ≤ 1000 ∧ rows.length ≤ 1000 ∧ (∀ c ∈ rows, Cmpr n c) ∧ P (tN (peelAll n rows).2)
def mb__law_own_clash_1 : MS :=
  (sRet (eTup aNil))
def mb__law_own_clash : MS :=
  (sSeq (sSet 2 (eFr (fListR1 (eCall fLen (aCons (eVar 1) aNil)))))
    (sSeq (sSet 3 (eFr (fListR1 (eVar 0))))
    (sSeq (sWhile (tVal (eBin oGt (eCall fLen (aCons (eVar 3) aNil)) (eC (.int 0))))
    (sSeq (sSet 6 (eFr (fLc (iSeq (eVar 3)) (DL.gName 4) (tVal (eBin oEq (eCall fLen (aCons (eFr (fLc (iSeq (eVar 2)) (DL.gName 5) (tVal (eBin oEq (eBin oIx (eBin oIx (eVar 1) (eVar 5)) (eVar 4)) (eUn oNeg (eC (.int 1))))) (eVar 5) [5])) aNil)) (eC (.int 0)))) (eVar 4) [4])))
    (sSeq (sIf (tVal (eBin oEq (eCall fLen (aCons (eVar 6) aNil)) (eC (.int 0)))) (sRet (eCall fTuple (aCons (eVar 2) aNil))) sNop)
    (sSeq (sSet 3 (eFr (fLc (iSeq (eVar 3)) (DL.gName 4) (tVal (eBin oNotIn (eVar 4) (eVar 6))) (eVar 4) [4])))
    (sSet 2 (eFr (fLc (iSeq (eVar 2)) (DL.gName 5) (tVal (eBin oEq (eCall fLen (aCons (eFr (fLc (iSeq (eVar 6)) (DL.gName 4) (tVal (eBin oEq (eBin oIx (eBin oIx (eVar 1) (eVar 5)) (eVar 4)) (eC (.int 1)))) (eVar 4) [4])) aNil)) (eC (.int 0)))) (eVar 5) [5])))))))
    mb__law_own_clash_1)))

theorem own_free {n : Nat} {rows : List (List Int)} (hc : ∀ c ∈ rows, Cmpr n c) {left : List Nat} (hl : ∀ k ∈ left, k < rows.length) (c : Nat) :
    (left.filter fun k => decide (at0 (rowAt rows k) c = -1)).map dN = [] ↔ (left.all fun k => decide (0 ≤ at0 (rowAt rows k) c)) = true := by
  simp
  refine ⟨fun h k hk => ?_, fun h k hk => ?_⟩
  · have := h k hk
    rcases at0_sgn (hc _ (rowAt_mem rows k (hl k hk))) c with e | e | e <;> omega
  · have := h k hk
    omega
theorem hF__law_own_clash : ∀ ds Q, F__law_own_clash ds Q → ds.length = 2 ∧ mb__law_own_clash { nx := fun _ => Q .non, rt := Q } (dstart 7 ds) := by
  rintro ds Q ⟨n, rows, rfl, hn, hl, hc, hP⟩
  refine ⟨rfl, ?_⟩
  have row_at : ∀ k c, k < rows.length → c < n → atI (rows.map tI) (k : Int) = some (tI (rowAt rows k)) ∧ atI ((rowAt rows k).map D.int) (c : Int) = some (.int (at0 (rowAt rows k) c)) := fun k c hk hcn =>
    ⟨rowAt_eq hk, atI_tI (by rw [(hc _ (rowAt_mem rows k hk)).len]; exact hcn)⟩
  simp [mb__law_own_clash, dstart]
  refine ⟨by omega, by omega, while_ind (fun m env => ∃ (f : Nat) (rest left : List Nat) (e4 e5 e6 : Option Sl), rest.length = m ∧ m ≤ f ∧ m ≤ n ∧ (∀ c ∈ rest, c < n) ∧ (∀ k ∈ left, k < rows.length) ∧ left.length ≤ rows.length ∧
    env = [some (.val (dN n)), some (.val (lI rows)), some (.val (.lst (left.map dN))), some (.val (.lst (rest.map dN))), e4, e5, e6] ∧ Q (tN (peel rows f rest left).2)) ?_ n _ ⟨n, List.range n, List.range rows.length, _, _, _, by simp, Nat.le_refl _, Nat.le_refl _, fun c h => List.mem_range.mp h, fun c h => List.mem_range.mp h, by simp, by rw [ints0, ints0], hP⟩⟩
  rintro m Kk env hK ⟨f, rest, left, e4, e5, e6, hm, hmf, hmn, hr, hlf, hll, rfl, q⟩
  by_cases h0 : rest.length = 0
  · have : rest = [] := List.eq_nil_of_length_eq_zero h0
    subst this
    rw [peel_fix] at q
    simp [mb__law_own_clash_1]
    exact q
  · have h1 : 0 < rest.length := by omega
    obtain ⟨f, rfl⟩ : ∃ f', f = f' + 1 := ⟨f - 1, by omega⟩
    have hne : ¬ rest = [] := fun e => h0 (by rw [e]; rfl)
    simp [h1]
    refine ⟨by omega, lc_filter dN (fun c => left.all fun k => decide (0 ≤ at0 (rowAt rows k) c)) (fun c hcm Kk1 Kn hL => ?_) _ ?_⟩
    · have hcn := hr c hcm
      simp
      refine ⟨by omega, lc_filter dN (fun k => decide (at0 (rowAt rows k) c = -1)) (fun k hk K2 Kn2 hL2 => ?_) _ ?_⟩
      · obtain ⟨x1, x2⟩ := row_at k c (hlf k hk) hcn
        simp [x1, x2] at hL2 ⊢
        exact hL2
      · rw [List.nil_append]
        exact ite_iff (own_free hc hlf c) hL
    · rw [List.nil_append]
      have hfe : (rest.filter fun c => left.all fun k => decide (0 ≤ at0 (rowAt rows k) c)) = freeC rows rest left := rfl
      rw [hfe]
      have hfs : ∀ c ∈ freeC rows rest left, c ∈ rest := freeC_sub
      have hfl : (freeC rows rest left).length ≤ rest.length := List.length_filter_le _ _
      simp only [peel, if_neg hne] at q
      generalize freeC rows rest left = fr at q hfs hfl ⊢
      by_cases hf0 : fr = []
      · rw [if_pos hf0] at q
        subst hf0
        simpa using q
      · rw [if_neg hf0] at q
        rw [if_neg (by simpa using hf0)]
        have hlt := restC_lt hf0 hfs
        refine ⟨by omega, lc_filter dN (fun c => !decide (c ∈ fr)) (fun c hcm K1 Kn hL => ?_) _ ?_⟩
        · simp [plainLN] at hL ⊢
          exact hL
        · rw [List.nil_append]
          refine ⟨by omega, lc_filter dN (fun k => !(fr.any fun c => decide (at0 (rowAt rows k) c = 1))) (fun k hk K1 Kn hL => ?_) _ ?_⟩
          · simp
            refine ⟨by omega, lc_filter dN (fun c => decide (at0 (rowAt rows k) c = 1)) (fun c hcm K2 Kn2 hL2 => ?_) _ ?_⟩
            · obtain ⟨x1, x2⟩ := row_at k c (hlf k hk) (hr c (hfs c hcm))
              simp [x1, x2] at hL2 ⊢
              exact hL2
            · rw [List.nil_append]
              refine ite_iff (?_ : _ ↔ (!(fr.any fun c => decide (at0 (rowAt rows k) c = 1))) = true) hL
              simp
          · refine hK (restC rest fr).length _ (by omega) ⟨f, restC rest fr, leftC rows left fr, e4, e5, _, rfl, by omega, by omega, fun c h => hr c (List.mem_filter.mp h).1, fun k h => hlf k (List.mem_filter.mp h).1, ?_, by simp; exact ⟨rfl, rfl, rfl⟩, q⟩
            have := List.length_filter_le (fun k => !(fr.any fun c => decide (at0 (rowAt rows k) c = 1))) left
            unfold leftC; omega
end DL

set_option Elab.async false
set_option linter.all false
set_option autoImplicit false
set_option maxRecDepth 100000
/-! DC13: the law's own layers. -/
namespace DL
open PySem (Str)
noncomputable def strata (n : Nat) (rows : List (List Int)) : D := if (peelAll n rows).2 = [] then .tup ((peelAll n rows).1.map tN) else .non
def F__law_strata : FD := fun ds P => ∃ (n : Nat) (rows : List (List Int)), ds = [dN n, lI rows] ∧ n ≤ 1000 ∧ rows.length ≤ 1000 ∧ (∀ c ∈ rows, Cmpr n c) ∧ P (strata n rows)
def mb__law_strata_1 : MS :=
  (sFrz 4 (sRet (eCall fTuple (aCons (eVar 4) aNil))))
def mb__law_strata : MS :=
  (sSeq (sSet 2 (eFr (fListR1 (eCall fLen (aCons (eVar 1) aNil)))))
    (sSeq (sSet 3 (eFr (fListR1 (eVar 0))))
    (sSeq (sSetOwn 4 (fLst aNil))
    (sSeq (sWhile (tVal (eBin oGt (eCall fLen (aCons (eVar 3) aNil)) (eC (.int 0))))
    (sSeq (sSet 7 (eFr (fLc (iSeq (eVar 3)) (DL.gName 5) (tVal (eBin oEq (eCall fLen (aCons (eFr (fLc (iSeq (eVar 2)) (DL.gName 6) (tVal (eBin oEq (eBin oIx (eBin oIx (eVar 1) (eVar 6)) (eVar 5)) (eUn oNeg (eC (.int 1))))) (eVar 6) [6])) aNil)) (eC (.int 0)))) (eVar 5) [5])))
    (sSeq (sIf (tVal (eBin oEq (eCall fLen (aCons (eVar 7) aNil)) (eC (.int 0)))) (sRet (eC .non)) sNop)
    (sSeq (sAppend 4 (eCall fTuple (aCons (eVar 7) aNil)))
    (sSeq (sSet 3 (eFr (fLc (iSeq (eVar 3)) (DL.gName 5) (tVal (eBin oNotIn (eVar 5) (eVar 7))) (eVar 5) [5])))
    (sSet 2 (eFr (fLc (iSeq (eVar 2)) (DL.gName 6) (tVal (eBin oEq (eCall fLen (aCons (eFr (fLc (iSeq (eVar 7)) (DL.gName 5) (tVal (eBin oEq (eBin oIx (eBin oIx (eVar 1) (eVar 6)) (eVar 5)) (eC (.int 1)))) (eVar 5) [5])) aNil)) (eC (.int 0)))) (eVar 6) [6]))))))))
    mb__law_strata_1))))

theorem hF__law_strata : ∀ ds Q, F__law_strata ds Q → ds.length = 2 ∧ mb__law_strata { nx := fun _ => Q .non, rt := Q } (dstart 8 ds) := by
  rintro ds Q ⟨n, rows, rfl, hn, hl, hc, hP⟩
  refine ⟨rfl, ?_⟩
  have row_at : ∀ k c, k < rows.length → c < n → atI (rows.map tI) (k : Int) = some (tI (rowAt rows k)) ∧ atI ((rowAt rows k).map D.int) (c : Int) = some (.int (at0 (rowAt rows k) c)) := fun k c hk hcn =>
    ⟨rowAt_eq hk, atI_tI (by rw [(hc _ (rowAt_mem rows k hk)).len]; exact hcn)⟩
  simp [mb__law_strata, dstart]
  refine ⟨by omega, by omega, while_ind (fun m env => ∃ (f : Nat) (acc : List (List Nat)) (rest left : List Nat) (e5 e6 e7 : Option Sl), rest.length = m ∧ m ≤ f ∧ m ≤ n ∧ acc.length + m ≤ n ∧ (∀ c ∈ rest, c < n) ∧ (∀ k ∈ left, k < rows.length) ∧ left.length ≤ rows.length ∧
    env = [some (.val (dN n)), some (.val (lI rows)), some (.val (.lst (left.map dN))), some (.val (.lst (rest.map dN))), some (.own (acc.map tN)), e5, e6, e7] ∧ Q (if (peel rows f rest left).2 = [] then .tup ((acc ++ (peel rows f rest left).1).map tN) else .non)) ?_ n _ ⟨n, [], List.range n, List.range rows.length, _, _, _, by simp, Nat.le_refl _, Nat.le_refl _, by simp, fun c h => List.mem_range.mp h, fun c h => List.mem_range.mp h, by simp, by rw [ints0, ints0]; rfl, hP⟩⟩
  rintro m Kk env hK ⟨f, acc, rest, left, e5, e6, e7, hm, hmf, hmn, ham, hr, hlf, hll, rfl, q⟩
  by_cases h0 : rest.length = 0
  · have : rest = [] := List.eq_nil_of_length_eq_zero h0
    subst this
    rw [peel_fix] at q
    simp [mb__law_strata_1] at q ⊢
    exact q
  · have h1 : 0 < rest.length := by omega
    obtain ⟨f, rfl⟩ : ∃ f', f = f' + 1 := ⟨f - 1, by omega⟩
    have hne : ¬ rest = [] := fun e => h0 (by rw [e]; rfl)
    simp [h1]
    refine ⟨by omega, lc_filter dN (fun c => left.all fun k => decide (0 ≤ at0 (rowAt rows k) c)) (fun c hcm Kk1 Kn hL => ?_) _ ?_⟩
    · have hcn := hr c hcm
      simp
      refine ⟨by omega, lc_filter dN (fun k => decide (at0 (rowAt rows k) c = -1)) (fun k hk K2 Kn2 hL2 => ?_) _ ?_⟩
      · obtain ⟨x1, x2⟩ := row_at k c (hlf k hk) hcn
        simp [x1, x2] at hL2 ⊢
        exact hL2
      · rw [List.nil_append]
        exact ite_iff (own_free hc hlf c) hL
    · rw [List.nil_append]
      have hfe : (rest.filter fun c => left.all fun k => decide (0 ≤ at0 (rowAt rows k) c)) = freeC rows rest left := rfl
      rw [hfe]
      have hfs : ∀ c ∈ freeC rows rest left, c ∈ rest := freeC_sub
      have hfl : (freeC rows rest left).length ≤ rest.length := List.length_filter_le _ _
      have hle : freeC rows rest left = [] → left ≠ [] := fun e z => by
        subst z
        have : freeC rows rest [] = rest := by unfold freeC; rw [List.filter_eq_self]; simp
        rw [this] at e
        exact hne e
      simp only [peel, if_neg hne] at q
      generalize freeC rows rest left = fr at q hfs hfl hle ⊢
      by_cases hf0 : fr = []
      · simp only [if_pos hf0] at q
        rw [if_neg (hle hf0)] at q
        subst hf0
        simpa using q
      · simp only [if_neg hf0] at q
        rw [if_neg (by simpa using hf0)]
        have hlt := restC_lt hf0 hfs
        refine ⟨by omega, by omega, lc_filter dN (fun c => !decide (c ∈ fr)) (fun c hcm K1 Kn hL => ?_) _ ?_⟩
        · simp [plainLN] at hL ⊢
          exact hL
        · rw [List.nil_append]
          refine ⟨by omega, lc_filter dN (fun k => !(fr.any fun c => decide (at0 (rowAt rows k) c = 1))) (fun k hk K1 Kn hL => ?_) _ ?_⟩
          · simp
            refine ⟨by omega, lc_filter dN (fun c => decide (at0 (rowAt rows k) c = 1)) (fun c hcm K2 Kn2 hL2 => ?_) _ ?_⟩
            · obtain ⟨x1, x2⟩ := row_at k c (hlf k hk) (hr c (hfs c hcm))
              simp [x1, x2] at hL2 ⊢
              exact hL2
            · rw [List.nil_append]
              refine ite_iff (?_ : _ ↔ (!(fr.any fun c => decide (at0 (rowAt rows k) c = 1))) = true) hL
              simp
          · refine hK (restC rest fr).length _ (by omega) ⟨f, acc ++ [fr], restC rest fr, leftC rows left fr, e5, e6, _, rfl, by omega, by omega, by simp; omega, fun c h => hr c (List.mem_filter.mp h).1, fun k h => hlf k (List.mem_filter.mp h).1, ?_, by simp; exact ⟨rfl, rfl, rfl⟩, by simpa using q⟩
            have := List.length_filter_le (fun k => !(fr.any fun c => decide (at0 (rowAt rows k) c = 1))) left
            unfold leftC; omega
end DL

set_option Elab.async false
set_option linter.all false
set_option autoImplicit false
set_option maxRecDepth 100000
/-! DEx: defs that may raise an own error; a def that catches it and tells its kind. -/
namespace DL
open PySem PySem.Spec PyProof.Rows L2
abbrev FDX : Type := List D → (D → Prop) → Prop → Prop
/-- what the classes say -/
structure ExT (K : PySem.W.Frag) (mg : Str → Option Value) (C CM CN : Addr) : Prop where
  mC : mg "Clashing" = some (.ref C)
  mM : mg "MarkError" = some (.ref CM)
  mN : mg "NotAllowed" = some (.ref CN)
  exc : PySem.W.excIn K C He.veBase "ValueError.__new__" = true
  kp : PySem.W.keepIn K (.ref C) = true
  sb : PySem.W.subIn K (.ref C) (.type "BaseException") = some true
  ty : PySem.W.typeIn K (.ref C) = some (.type "type")
  em : PySem.W.exmOne K (.ref C) (.ref CM) = some true
  is : ExcC K C
  i1 : PySem.W.kitOne K (.ref C) (.ref C) = some true
  i2 : PySem.W.kitOne K (.ref C) (.ref CN) = some false
def spX (K : PySem.W.Frag) (Tb : Addr → Prop) (C : Addr) (F : FDX) : Sp := fun vs H Q E => ∃ (W : Wd K Tb) (Oc : Addr → Prop) (ds : List D) (P : D → Prop) (R : Prop), W.G H ∧ (∀ a, W.Z a → Oc a) ∧ (∀ a, Oc a → ∃ o, H a = some o) ∧ Rps W Oc H ds vs ∧ F ds P R ∧
  (∀ H' v d, Keep W H H' → Rp W Oc H' d v → P d → Q v H') ∧ (R → ∀ H', Keep W H H' → E (.ref C) none H')
structure DfOkX (P : Program) (w : World) (K : PySem.W.Frag) (mg : Str → Option Value) (base : Heap) (x : Str) (ps : List Str) (k : Nat) (sp : Sp) : Prop where
  ex : ∃ f fd, FnOk P w K mg base (L2.CX P w) k f fd ps sp ∧ mg x = some (.ref f) ∧ PySem.W.keepIn K (.ref f) = true ∧ Binds K fd ps []
abbrev MSX : Type := DEnds → Prop → DEnv → Prop
section
variable {X : Cx} {Tb : Addr → Prop} {C CM CN : Addr} {E0 : XK}
structure XS (X : Cx) (Tb : Addr → Prop) (C : Addr) (E0 : XK) (st : Stmt) (m : MSX) : Prop where
  ex : ∃ t, PS X st t ∧ ∀ (W : Wd X.K Tb) (Oc : Addr → Prop) (H0 : Hp) (O : Addr → Prop) (H : Hp) (σ : St) (env : DEnv) (D : Ends) (E : DEnds) (R : Prop), FR W Oc H0 O H σ env → m E R env → EndsOk W Oc H0 O H D E → (R → ∀ H', Keep W H0 H' → E0 (.ref C) none H') → t D σ H
structure XV (X : Cx) (Tb : Addr → Prop) (C : Addr) (E0 : XK) (st : List Stmt) (m : MSX) : Prop where
  ex : ∃ t, PSs X st t ∧ ∀ (W : Wd X.K Tb) (Oc : Addr → Prop) (H0 : Hp) (O : Addr → Prop) (H : Hp) (σ : St) (env : DEnv) (D : Ends) (E : DEnds) (R : Prop), FR W Oc H0 O H σ env → m E R env → EndsOk W Oc H0 O H D E → (R → ∀ H', Keep W H0 H' → E0 (.ref C) none H') → t D σ H
@[simp] def xBv (m : MS) : MSX := fun E _ env => m E env
@[simp] def xSeq (a b : MSX) : MSX := fun E R env => a { E with nx := fun e => b E R e } R env
@[simp] def xRaiseIf (mc : MT) : MSX := fun E R env => mc env fun k e1 => if k = true then R else E.nx e1
@[simp] def xCall (F : FDX) (mr : MA) : MSX := fun E R env => mr env fun ds e1 => F ds (fun _ => E.nx e1) R
@[simp] def sTold (i : Nat) (F : FDX) (mr : MA) (s : Str) : MS := fun E env => i < env.length ∧ mr env fun ds _ => F ds E.rt (E.rt (.str s))
theorem xv_bv {st : List Stmt} {m : MS} (h : BV X.nox Tb st m) : XV X Tb C E0 st (xBv m) := by
  obtain ⟨t, p, h⟩ := h.ex
  exact ⟨t, PSs.nox p, fun W Oc H0 O H σ env D E R F hm k _ => h W Oc H0 O H σ env D E F hm k⟩
theorem xv_cons {st : Stmt} {rest : List Stmt} {m1 m2 : MSX} (h1 : XS X Tb C E0 st m1) (h2 : XV X Tb C E0 rest m2) : XV X Tb C E0 (st :: rest) (xSeq m1 m2) := by
  obtain ⟨t, p, h1⟩ := h1.ex
  obtain ⟨u, q, h2⟩ := h2.ex
  refine ⟨_, pss_cons p q, fun W Oc H0 O H σ env D E R F h k kr => ?_⟩
  refine h1 W Oc H0 O H σ env _ { E with nx := fun e => m2 E R e } R F h ⟨fun O' H' σ' env' F' mv hn => ?_, k.rt, k.bk, k.ct, k.rn⟩ kr
  exact h2 W Oc H0 O' H' σ' env' D E R F' hn (k.mv mv) kr
theorem xv_one {st : Stmt} {m1 : MSX} (h1 : XS X Tb C E0 st m1) : XV X Tb C E0 [st] m1 := by
  obtain ⟨t, p, h1⟩ := h1.ex
  exact ⟨_, pss_one p, h1⟩
theorem xs_raiseIf {c : Expr} {mc : MT} {m : Str} {j : Nat} {p p2 pos pos1 pos2 : Pos} (T : ExT X.K X.mg C CM CN) (tk : Takes X (fun cls d _ H => E0 cls d H)) (hc : TV X Tb c mc) (hca : X.calm = true := by rfl) (hg : Gl X "Clashing" := by rfl) :
    XS X Tb C E0 (.If c [.Raise (some (.Call (.Name "Clashing" p) [.Constant (.str m) j p2] [] pos)) none pos1] [] pos2) (xRaiseIf mc) := by
  obtain ⟨tc, pc, hc⟩ := hc.ex
  refine ⟨_, ps_if pc (pss_one (ps_raise hca tk (pmk_own PySem.F.excBase_ValueError T.exc T.mC T.kp (raises_own T.sb T.ty) hg))) pss_nil, fun W Oc H0 O H σ env D E R F hm k kr => ?_⟩
  refine hc W Oc H0 O H σ env _ _ F hm fun H1 c e1 F1 s1 q1 => ?_
  cases c with
  | true => exact iteT (kr (by simpa using q1) H1 F1.rt)
  | false => exact iteF (k.nx O H1 σ e1 F1 (Mv.of s1) (by simpa using q1))
theorem xs_call {x : Str} {j k : Nat} {ps : List Str} {F : FDX} {e : Expr} {es : List Expr} {mr : MA} {p pos pos2 : Pos} (d : DfOkX X.prog X.w X.K X.mg X.base x ps j (spX X.K Tb C F)) (hr : Room k X.A) (hjk : j ≤ k) (tk : Takes X (fun cls d _ H => E0 cls d H)) (ha : AV X Tb (e :: es) mr) (hg : Gl X x := by rfl) (hdb : (x == ("__debug__" : Str)) = false := by decide)
    (he : starEach (e :: es) X.env = (false, eval e X.env) :: starEach es X.env := by rfl) (hpl : (backTo pos (starEach es X.env)).any (·.1) = false := by rfl)
    (hsw : swapsWith (.Call (.Name x p) (e :: es) [] pos) none pos2.line X.env = pure false := by rfl) : XS X Tb C E0 (.Expr (.Call (.Name x p) (e :: es) [] pos) pos2) (xCall F mr) := by
  obtain ⟨f, fd, h, g, kp, b⟩ := d.ex
  obtain ⟨ta, pa, h1⟩ := ha.ex
  refine ⟨_, ps_expr (pe_callS h (hr.mono hjk) hg g kp b (fun σ => passAt tk σ) pa hdb he hpl) hsw, fun W Oc H0 O H σ env D E R F hm k kr => ?_⟩
  refine h1 W Oc H0 O H σ env _ _ F hm fun H1 xs ds e1 F1 s1 r1 q1 => ?_
  refine ⟨W, O, ds, _, R, F1.g, F1.zo, F1.dom, r1, q1, fun H2 v d k2 r2 q2 => ?_, fun hR H2 k2 => ?_⟩
  · exact k.nx O H2 σ e1 (F1.keep k2) (Mv.of (s1.trans (k2.stab F1.zo))) q2
  · exact kr hR H2 (F1.keep k2).rt
theorem pss_when {st : List Stmt} {p : Prop} {t : TS} (h : p → PSs X st t) : PSs X st (fun D σ H => p ∧ t D σ H) := ⟨fun pins s σ H D I hw => (h hw.1).run pins s σ H D I hw.2⟩
/-- arguments that are read the same in a try's body -/
structure AVt (X : Cx) (Tb : Addr → Prop) (es : List Expr) (m : MA) : Prop where
  ex : ∃ t, (∀ pn xe, PA (X.tr pn xe) es t) ∧ ∀ (W : Wd X.K Tb) (Oc : Addr → Prop) (H0 : Hp) (O : Addr → Prop) (H : Hp) (σ : St) (env : DEnv) (Q : List V → Hp → Prop) (P : List D → DEnv → Prop), FR W Oc H0 O H σ env → m env P →
    (∀ H' vs ds env', FR W Oc H0 O H' σ env' → Stab O H H' → Rps W O H' ds vs → P ds env' → Q vs H') → t σ H Q
theorem avt_nil : AVt X Tb [] aNil := ⟨_, fun pn xe => pa_nil, fun W Oc H0 O H σ env Q P F hm hq => hq H [] [] env F Stab.refl rfl hm⟩
theorem avt_cons {x : Str} {pos : Pos} {i : Nat} {es : List Expr} {mr : MA} (ha : ∀ pn xe, PE (X.tr pn xe) (.Name x pos) (tVar i)) (hr : AVt X Tb es mr) (hs : ∀ pn xe, starEach (.Name x pos :: es) (X.tr pn xe).env = (false, eval (.Name x pos) (X.tr pn xe).env) :: starEach es (X.tr pn xe).env := by intros; rfl) :
    AVt X Tb (.Name x pos :: es) (aCons (eVar i) mr) := by
  obtain ⟨tr, pr, h2⟩ := hr.ex
  refine ⟨_, fun pn xe => pa_cons (ha pn xe) (pr pn xe) (hs pn xe), fun W Oc H0 O H σ env Q P F hm hq => ?_⟩
  unfold aCons eVar at hm
  dsimp only at hm
  split at hm
  · rename_i d e
    obtain ⟨v, e1, r⟩ := F.slot i _ e
    refine ⟨v, e1, ?_⟩
    refine h2 W Oc H0 O H σ env _ _ F hm fun H2 xs ds e2 F2 s2 r2 q2 => ?_
    exact hq H2 (v :: xs) (d :: ds) e2 F2 s2 ⟨v, xs, rfl, Rep.stab s2 r, r2⟩ q2
  · exact hm.elim
theorem sv_told {x n s1 s2 : Str} {i j k j1 j2 : Nat} {ps : List Str} {F : FDX} {e : Expr} {es : List Expr} {mr : MA} {p pos pos2 np p1 p2 p3 p4 p5 p6 p7 p8 p9 p10 p11 p12 p13 p14 p15 p16 : Pos} (T : ExT X.K X.mg C CM CN) (hs : X.stack = X.env :: X.outer) (hf : X.env.frame = some X.env.locals) (hN : X.N.Nodup) (hi : X.N[i]? = some n) (hln : X.env.kindOf n = some .local)
    (d : DfOkX X.prog X.w X.K X.mg X.base x ps j (spX X.K Tb C F)) (hr : Room k X.A) (hjk : j ≤ k) (ha : AVt X Tb (e :: es) mr) (hisi : X.mg "isinstance" = none) (hv : ∀ a pn, PE (X.suite a pn) (.Name n p2) (tVar i)) (hv' : ∀ a pn, PE (X.suite a pn) (.Name n p3) (tVar i)) (hg : Gl X x := by rfl) (hdb : (x == ("__debug__" : Str)) = false := by decide)
    (hgM : Gl X "MarkError" := by rfl) (hgC : Gl X "Clashing" := by rfl) (hgN : Gl X "NotAllowed" := by rfl) (hgI : Gl X "isinstance" := by rfl)
    (he : starEach (e :: es) X.env = (false, eval e X.env) :: starEach es X.env := by rfl) (hpl : (backTo pos (starEach es X.env)).any (·.1) = false := by rfl) :
    SV X Tb (.Try [.Return (some (.Call (.Name x p) (e :: es) [] pos)) pos2] [.ExceptHandler (some (.Name "MarkError" np)) (some n)
      [.Return (some (.IfExp (.BoolOp .And [.Call (.Name "isinstance" p4) [.Name n p2, .Name "Clashing" p5] [] p6, .UnaryOp .Not (.Call (.Name "isinstance" p7) [.Name n p3, .Name "NotAllowed" p8] [] p9) p10] p11) (.Constant (.str s1) j1 p12) (.Constant (.str s2) j2 p13) p14)) p15] p1] [] [] p16) (sTold i F mr s1) := by
  obtain ⟨f, fd, h, g, kp, b⟩ := d.ex
  obtain ⟨ta, pa, h1⟩ := ha.ex
  refine ⟨_, ps_try_as (i := i) (tb := fun W => tRet (tCallS (spX X.K Tb C F) (WE W) ta))
    (ts := fun a cls d => fun D σ H => (cls = .ref C ∧ d = none) ∧ tRet (tIf (L2.tAnd (tB (tCB (rIsE X.K C a) (tCons (tVar i) (tCons (tC (.ref C)) tNil)))) (L2.tNot (tB (tCB (rIsE X.K C a) (tCons (tVar i) (tCons (tC (.ref CN)) tNil)))))) (tC (.str s1)) (tC (.str s2))) D σ H)
    (Wout := fun _ _ _ _ => False) hs hf hN hi hln ⟨hgM, by decide, .inl T.mM⟩ takes0 (fun W pn xe tk _ => ?_) (fun a oe cls d pn hz hfl => ?_), fun W Oc H0 O H σ env D E F hm k => ?_⟩
  · exact pss_one (ps_ret (pe_callS (X := X.tr pn xe) h (hr.mono hjk) hg g kp b (fun σ => passAt tk σ) (pa pn xe) hdb he hpl))
  · refine pss_when fun ⟨hc, hd⟩ => ?_
    subst hc; subst hd
    have ca := call_isE (X := X) (a := a) (pn := pn) T.is hz hfl
    have q1 := pe_callB (X := X.suite a ((a, oe) :: pn)) (p := p4) (pos := p6) ca hgI hisi (by decide +kernel) (pa_cons (hv a _) (pa_cons (pe_glob (v := .ref C) (pos := p5) hgC T.mC rfl) pa_nil))
    have q2 := pe_callB (X := X.suite a ((a, oe) :: pn)) (p := p7) (pos := p9) ca hgI hisi (by decide +kernel) (pa_cons (hv' a _) (pa_cons (pe_glob (v := .ref CN) (pos := p8) hgN T.mN rfl) pa_nil))
    exact pss_one (ps_ret (pe_ifExp (pw_and (pt_val q1) (pw_and1 (pt_not (pt_val q2)))).pt pe_str pe_str))
  · obtain ⟨hil, hm⟩ := hm
    rw [F.len] at hil
    refine h1 W Oc H0 O H σ env _ _ F hm fun H1 xs ds e1 F1 s1' r1 q1 => ?_
    refine ⟨W, O, ds, _, _, F1.g, F1.zo, F1.dom, r1, q1, fun H2 v d k2 r2 q2 => ?_, fun hR H2 k2 => ?_⟩
    · exact k.rt H2 v d (F1.keep k2).rt (Rep.weak F1.oc r2) q2
    · refine ⟨true, T.em, fun _ a ha0 => ?_, fun z => Bool.noConfusion z⟩
      have hg1 : (σ.set i (some (V.ref a)))[i]? = some (some (.ref a)) := List.getElem?_set_self hil
      refine ⟨⟨rfl, rfl⟩, _, hg1, .ref C, .ref C, true, rfl, fun u h => h, T.i1, true, rfl, iteT ⟨_, hg1, .ref CN, .ref CN, false, rfl, fun u h => h, T.i2, false, rfl, iteT ?_⟩⟩
      exact k.rt H2 (.str s1) (.str s1) (F1.keep k2).rt rfl hR
end
/-- THE RULE for a def that may raise -/
theorem fn_dX {P : Program} {w : World} {K : PySem.W.Frag} {mg : Str → Option Value} {base : Heap} {Tb : Addr → Prop} {C : Addr} {x qual : Str} {params : Arguments} {body : List Stmt} {scope : Scope} {f : Addr} {fd : FuncData} {N ps : List Str} {k : Nat} {F : FDX} {mb : MSX} (Fu : FunD K x qual params body scope [] [] f fd) (S : FnScope N ps scope)
    (hb : ∀ (cdv : Value) (A : Around) (outer : List PySem.Env) (s : Shared) (H : Hp) (E : XK), fd.code = cdv → Room k (A.deeper (envOfC qual scope s.heap.objs.size f cdv)) → Takes (cxOf (L2.CX P w) P w K mg base N qual scope f cdv A outer s H E) (fun cls d _ H => E cls d H) → XV (cxOf (L2.CX P w) P w K mg base N qual scope f cdv A outer s H E) Tb C E body mb)
    (hF : ∀ ds Q R, F ds Q R → ds.length = ps.length ∧ mb { nx := fun _ => Q .non, rt := Q } R (dstart N.length ds)) : FnOk P w K mg base (L2.CX P w) (k + 1) f fd ps (spX K Tb C F) := by
  obtain ⟨oc, od, dV, kV, doc, pm, an, cdv, ct, osl, rfl, lk, hcd, _, _⟩ := Fu.ex
  refine fn_of lk hcd S (fun vs H Q E h => ?_) (fun A outer s H vs Q E hr h => ?_)
  · obtain ⟨W, Oc, ds, P, R, _, _, _, r, hf, _⟩ := h
    rw [r.length]
    exact (hF ds P R hf).1
  · obtain ⟨W, Oc, ds, P, R, g, zc, dc, r, hf, hq, hx⟩ := h
    obtain ⟨hl, hm⟩ := hF ds P R hf
    obtain ⟨t, p, hb⟩ := (hb cdv A outer s H E rfl hr (takes_of rfl rfl rfl rfl)).ex
    refine ⟨t, p, ?_⟩
    have hle : ps.length ≤ N.length := by
      have := congrArg List.length S.pre
      rw [List.length_take] at this
      omega
    have hvs := r.length
    refine hb W Oc H Oc H (L2.start N vs) (dstart N.length ds) _ _ R ⟨g, fun _ _ h _ => h, zc, dc, fun _ h => h, fun _ h => .inl h, ?_, fun i s e => ?_, fun i j es fs a _ e _ mm => ?_⟩ hm
      ⟨fun O' H' σ' env' F' _ q => hq H' .non .non F'.rt rfl q, fun H' v d kp rv q => hq H' v d kp rv q, fun _ _ _ _ _ _ q => False.elim q, fun _ _ _ _ _ _ q => False.elim q, fun _ _ _ _ _ _ _ _ _ q => False.elim q⟩ hx
    · unfold L2.start dstart
      simp only [List.length_append, List.length_map, List.length_replicate]
      rw [hvs]
    · unfold dstart at e
      by_cases hi : i < ds.length
      · rw [List.getElem?_append_left (by simpa using hi), List.getElem?_map, List.getElem?_eq_getElem hi] at e
        have e' : s = .val ds[i] := by simpa using e.symm
        subst e'
        obtain ⟨v, e1, r1⟩ := r.get (List.getElem?_eq_getElem hi)
        refine ⟨v, ?_, r1⟩
        unfold L2.start
        rw [List.getElem?_append_left (by rw [List.length_map, hvs]; exact hi), List.getElem?_map, e1]
        rfl
      · rw [List.getElem?_append_right (by simpa using hi)] at e
        rw [List.getElem?_replicate] at e
        split at e <;> cases e
    · unfold dstart at e
      by_cases hi : i < ds.length
      · rw [List.getElem?_append_left (by simpa using hi), List.getElem?_map, List.getElem?_eq_getElem hi] at e
        cases e; cases mm
      · rw [List.getElem?_append_right (by simpa using hi)] at e
        rw [List.getElem?_replicate] at e
        split at e <;> cases e
section
variable {P : Program} {w : World} {K : PySem.W.Frag} {mg : Str → Option Value} {base : Heap} {Tb : Addr → Prop} {C : Addr}
theorem df_okX {x : Str} {st : Stmt} {N ps : List Str} {k : Nat} {F : FDX} {mb : MSX} (d : Df0 K mg x st ps) (S : FnScope N ps (defScope st))
    (hb : ∀ (f : Addr) (cdv : Value) (A : Around) (outer : List PySem.Env) (s : Shared) (H : Hp) (E : XK), Room k (A.deeper (envOfC x (defScope st) s.heap.objs.size f cdv)) → Takes (cxOf (L2.CX P w) P w K mg base N x (defScope st) f cdv A outer s H E) (fun cls d _ H => E cls d H) → XV (cxOf (L2.CX P w) P w K mg base N x (defScope st) f cdv A outer s H E) Tb C E (defBody st) mb)
    (hF : ∀ ds Q R, F ds Q R → ds.length = ps.length ∧ mb { nx := fun _ => Q .non, rt := Q } R (dstart N.length ds)) : DfOkX P w K mg base x ps (k + 1) (spX K Tb C F) := by
  obtain ⟨f, fd, h, g, b⟩ := d.ex
  exact ⟨f, fd, fn_dX h S (fun cdv A outer s H E _ r tk => hb f cdv A outer s H E r tk) hF, g, h.kp, b⟩
theorem df_okXC {x : Str} {st : Stmt} {N ps : List Str} {k : Nat} {F : FDX} {mb : MSX} {c : Addr} (d : Df1 K mg x st ps c) (S : FnScope N ps (defScope st))
    (hb : ∀ (f : Addr) (A : Around) (outer : List PySem.Env) (s : Shared) (H : Hp) (E : XK), Room k (A.deeper (envOfC x (defScope st) s.heap.objs.size f (.ref c))) → Takes (cxOf (L2.CX P w) P w K mg base N x (defScope st) f (.ref c) A outer s H E) (fun cls d _ H => E cls d H) → XV (cxOf (L2.CX P w) P w K mg base N x (defScope st) f (.ref c) A outer s H E) Tb C E (defBody st) mb)
    (hF : ∀ ds Q R, F ds Q R → ds.length = ps.length ∧ mb { nx := fun _ => Q .non, rt := Q } R (dstart N.length ds)) : DfOkX P w K mg base x ps (k + 1) (spX K Tb C F) := by
  obtain ⟨f, fd, h, g, b, e⟩ := d.ex
  exact ⟨f, fd, fn_dX h S (fun cdv A outer s H E q r tk => by
    have z : cdv = .ref c := q.symm.trans e
    subst z
    exact hb f A outer s H E r tk) hF, g, h.kp, b⟩
end
/-! ### the classes' facts -/
def excB (K : PySem.W.Frag) : Bool :=
  PySem.W.excIn K (He.ga K "Clashing") He.veBase "ValueError.__new__" && (PySem.W.keepIn K (.ref (He.ga K "Clashing")) && (decide (PySem.W.subIn K (.ref (He.ga K "Clashing")) (.type "BaseException") = some true) && (decide (PySem.W.typeIn K (.ref (He.ga K "Clashing")) = some (.type "type")) &&
  (decide (PySem.W.exmOne K (.ref (He.ga K "Clashing")) (.ref (He.ga K "MarkError")) = some true) && (He.eqO (PySem.W.findIn K (.ref (He.ga K "Clashing")) "__getattribute__") (some (some (.builtin "BaseException.__getattribute__"))) && (He.eqO (PySem.W.findIn K (.ref (He.ga K "Clashing")) "__getattr__") (some none) &&
  (PySem.W.hasDictIn K (He.ga K "Clashing") && (He.eqO (PySem.W.findIn K (.ref (He.ga K "Clashing")) "__class__") (some (some (.builtin "object.__class__"))) && (He.eqO (PySem.W.specialIn K (.builtin "object.__class__") "__get__") (some (some (.builtin "getset_descriptor.__get__"))) &&
  (decide (PySem.W.takesIn K (.builtin "object.__class__") = some true) && (decide (PySem.W.mroIn K (He.ga K "Clashing") (.type "object") = some true) && (decide (PySem.W.kitOne K (.ref (He.ga K "Clashing")) (.ref (He.ga K "Clashing")) = some true) && decide (PySem.W.kitOne K (.ref (He.ga K "Clashing")) (.ref (He.ga K "NotAllowed")) = some false)))))))))))))
theorem excT {K : PySem.W.Frag} {mg : Str → Option Value} (c : excB K = true) (g1 : mg "Clashing" = some (.ref (He.ga K "Clashing"))) (g2 : mg "MarkError" = some (.ref (He.ga K "MarkError"))) (g3 : mg "NotAllowed" = some (.ref (He.ga K "NotAllowed"))) :
    ExT K mg (He.ga K "Clashing") (He.ga K "MarkError") (He.ga K "NotAllowed") := by
  obtain ⟨c1, c⟩ := He.ba c
  obtain ⟨c2, c⟩ := He.ba c
  obtain ⟨c3, c⟩ := He.ba c
  obtain ⟨c4, c⟩ := He.ba c
  obtain ⟨c5, c⟩ := He.ba c
  obtain ⟨c6, c⟩ := He.ba c
  obtain ⟨c7, c⟩ := He.ba c
  obtain ⟨c8, c⟩ := He.ba c
  obtain ⟨c9, c⟩ := He.ba c
  obtain ⟨c10, c⟩ := He.ba c
  obtain ⟨c11, c⟩ := He.ba c
  obtain ⟨c12, c⟩ := He.ba c
  obtain ⟨c13, c14⟩ := He.ba c
  exact ⟨g1, g2, g3, c1, c2, of_decide_eq_true c3, of_decide_eq_true c4, of_decide_eq_true c5, ⟨He.eqO_ok c6, He.eqO_ok c7, of_decide_eq_true c3, c8, He.eqO_ok c9, He.eqO_ok c10, of_decide_eq_true c11, of_decide_eq_true c12⟩, of_decide_eq_true c13, of_decide_eq_true c14⟩
end DL

set_option Elab.async false
set_option linter.all false
set_option autoImplicit false
set_option maxRecDepth 100000
/-! DV: list comprehensions with two fors; stars in tuple displays. -/
namespace DL
open PySem PySem.Spec PyProof.Rows L2
variable {X : Cx} {Tb : Addr → Prop}
/-! ### stars -/
@[simp] def aStar (a : ME) (r : MA) : MA := fun env P => a env fun x e1 => match x with
  | .tup xs => r e1 fun ys e2 => P (xs ++ ys) e2
  | .lst xs => r e1 fun ys e2 => P (xs ++ ys) e2
  | _ => False
section
variable {e : Expr} {es : List Expr} {m : ME} {mr : MA} {p : Pos}
theorem av_star (ha : EV X Tb e m) (hr : AV X Tb es mr) (hs : starEach (.Starred e p :: es) X.env = (true, eval e X.env) :: starEach es X.env := by rfl) : AV X Tb (.Starred e p :: es) (aStar m mr) := by
  obtain ⟨ta, pa, h1⟩ := ha.ex
  obtain ⟨tr, pr, h2⟩ := hr.ex
  refine ⟨_, StX.pa_star pa pr hs, fun W Oc H0 O H σ env Q P F hm hq => ?_⟩
  refine h1 W Oc H0 O H σ env _ _ F hm fun H1 x dx e1 F1 s1 r1 q1 => ?_
  cases dx with
  | tup xs =>
    obtain ⟨a, vs, rfl, qa, na, ra⟩ := id r1
    refine ⟨a, vs, rfl, .inl (sqRd qa), ?_⟩
    refine h2 W Oc H0 O H1 σ e1 _ _ F1 q1 fun H2 ys ds e2 F2 s2 r2 q2 => ?_
    exact hq H2 (vs ++ ys) (xs ++ ds) e2 F2 (s1.trans s2) ((Reps.stab s2 ra).app r2) q2
  | lst xs =>
    obtain ⟨a, vs, rfl, qa, na, ra⟩ := id r1
    refine ⟨a, vs, rfl, .inr (SqL.of qa), ?_⟩
    refine h2 W Oc H0 O H1 σ e1 _ _ F1 q1 fun H2 ys ds e2 F2 s2 r2 q2 => ?_
    exact hq H2 (vs ++ ys) (xs ++ ds) e2 F2 (s1.trans s2) ((Reps.stab s2 ra).app r2) q2
  | _ => exact False.elim q1
end
/-! ### two fors -/
def lc2Loop (g : MG) (t : MT) (mi1 : MI) (g1 : MG) (t1 : MT) (e : ME) (b : DEnv) (vs1 : List Nat) (P : List D → Prop) : List D → List D → Prop
  | [], acc => P acc
  | d :: ds, acc => g d b fun e1 => t e1 fun k e2 => if k = true then mi1 e2 fun items e3 => acc.length + items.length ≤ LN ∧ lcLoop g1 t1 e (hide (wipe e3 vs1)) (fun acc => lc2Loop g t mi1 g1 t1 e b vs1 P ds acc) items acc
    else lc2Loop g t mi1 g1 t1 e b vs1 P ds acc
@[simp] def fLc2 (mi : MI) (g : MG) (t : MT) (mi1 : MI) (g1 : MG) (t1 : MT) (e : ME) (vs vs1 : List Nat) : MF := fun env P => mi env fun items e1 => lc2Loop g t mi1 g1 t1 e (hide (wipe e1 vs)) vs1 (fun acc => P acc e1) items []
theorem lc2_ind {g : MG} {t : MT} {mi1 : MI} {g1 : MG} {t1 : MT} {e : ME} {b : DEnv} {vs1 : List Nat} {P : List D → Prop} (I : List D → List D → Prop) (h0 : ∀ acc, I [] acc → P acc)
    (h1 : ∀ d ds (Kk : List D → Prop) acc, (∀ a, I ds a → Kk a) → I (d :: ds) acc → g d b fun e1 => t e1 fun k e2 => if k = true then mi1 e2 fun items e3 => acc.length + items.length ≤ LN ∧ lcLoop g1 t1 e (hide (wipe e3 vs1)) Kk items acc else Kk acc) : ∀ ds acc, I ds acc → lc2Loop g t mi1 g1 t1 e b vs1 P ds acc
  | [], acc, h => h0 acc h
  | d :: ds, acc, h => h1 d ds _ acc (fun a ha => lc2_ind I h0 h1 ds a ha) h
/-- an iteration at any place of a comprehension's block -/
def TImB (K : PySem.W.Frag) (Tb : Addr → Prop) (mi : MI) : TI := fun σ H R => ∃ (W : Wd K Tb) (Oc : Addr → Prop) (H0 : Hp) (O : Addr → Prop) (env : DEnv) (P : List D → DEnv → Prop), FR W Oc H0 O H σ env ∧ mi env P ∧
  ∀ H' J items env', FR W Oc H0 O H' σ env' → Stab O H H' → Drain K W.Pl O H' J items → P items env' → R J H'
theorem IV.piB {tg e : Expr} {mi : MI} (h : IV X Tb tg e mi) : PI X tg e (TImB X.K Tb mi) := by
  obtain ⟨wi, p, h⟩ := h.ex
  exact ⟨fun pins s σ H R I ⟨W, Oc, H0, O, env, P, F, hm, hq⟩ => p.run pins s σ H R I (h W Oc H0 O H σ env R P F hm hq)⟩
section
variable {K : PySem.W.Frag} {W : Wd K Tb} {Oc O : Addr → Prop} {H0 H : Hp} {σ : St} {env : DEnv}
theorem FR.innerB (F : FR W Oc H0 O H σ env) {H' : Hp} (g : W.G H') (st : Stab O H H') (hd : ∀ a, O a → ∃ o, H' a = some o) (vs : List Nat) : FR W O H' O H' (L2.wipe σ vs) (hide (DL.wipe env vs)) where
  g := g
  kept := fun _ _ h _ => h
  zc := fun a z => F.zo a z
  dc := hd
  oc := fun _ h => h
  od := fun _ h => .inl h
  len := by unfold hide; rw [List.length_map, wipe_len, L2.wipe_length]; exact F.len
  slot := fun i s h => by
    obtain ⟨d, rfl, h1⟩ := hide_get h
    obtain ⟨h2, hv⟩ := dwipe_get h1
    obtain ⟨v, e1, r⟩ := F.slot i _ h2
    exact ⟨v, by rw [wipe_get, if_neg hv]; exact e1, Rep.stab st r⟩
  dist := fun i j s t a _ h _ m => by
    obtain ⟨d, e, _⟩ := hide_get h
    subst e; cases m
end
section
variable {elt tg iter tg1 iter1 : Expr} {ifs ifs1 : List Expr} {scope : Scope} {own : List (Str × Nat)} {pos : Pos} {mi mi1 : MI} {g g1 : MG} {mt mt1 : MT} {me : ME} {us us1 : List Nat}
theorem wipe_wipeB (σ : St) (vs : List Nat) : L2.wipe (L2.wipe σ vs) vs = L2.wipe σ vs := by
  refine List.ext_getElem? fun j => ?_
  rw [wipe_get, wipe_get]
  by_cases hj : j ∈ vs
  · rw [if_pos hj, if_pos hj]; cases σ[j]? <;> rfl
  · rw [if_neg hj, if_neg hj]
theorem lc2_read {wi : TI} (W : Wd X.K Tb) (Oc : Addr → Prop) (H0 : Hp) (O : Addr → Prop) (H : Hp) (σ : St) (env : DEnv) (Q : VK) (P : List D → DEnv → Prop) (vs vs1 : List Nat) (hus : ∀ i ∈ us, i ∈ vs) (hus1 : ∀ i ∈ us1, i ∈ vs1)
    (hi : ∀ (W : Wd X.K Tb) (Oc : Addr → Prop) (H0 : Hp) (O : Addr → Prop) (H : Hp) (σ : St) (env : DEnv) (R : It → Hp → Prop) (P : List D → DEnv → Prop), FR W Oc H0 O H σ env → mi env P →
      (∀ H' J items env', FR W Oc H0 O H' σ env' → Stab O H H' → Drain X.K W.Pl O H' J items → P items env' → R J H') → wi σ H R)
    (F : FR W Oc H0 O H σ env) (hm : fLc2 mi g mt mi1 g1 mt1 me vs vs1 env P)
    (hq : ∀ H' p vs ds env', FR W Oc H0 O H' σ env' → FR W Oc H0 (fun a => O a ∨ a = p) H' σ env' → Stab O H H' → H p = none → H0 p = none → ¬ O p → H' p = some (.lst vs) → Rps W (fun a => O a ∨ a = p) H' ds vs → P ds env' → Q (.ref p) H') :
    tLc2 wi (TGm X.K Tb g us) (TTm X.K Tb mt) (TImB X.K Tb mi1) (TGm X.K Tb g1 us1) (TTm X.K Tb mt1) (TEm X.K Tb me) vs vs1 σ H Q := by
  refine hi W Oc H0 O H σ env _ _ F hm fun H1 J items e1 F1 s1 dr q1 => ?_
  intro D hD
  have nOD : ¬ O D := F1.nO hD
  let O' : Addr → Prop := fun a => O a ∨ a = D
  have hZD : ¬ W.Z D := fun z => by
    obtain ⟨u, q⟩ := W.dom H1 D F1.g z
    rw [hD] at q; cases q
  refine ⟨fun i m H2 => ∃ acc accD, m = items.length - i ∧ i ≤ items.length ∧ Keep W H1 H2 ∧ H2 D = some (.lst acc) ∧ Rps W O' H2 accD acc ∧ lc2Loop g mt mi1 g1 mt1 me (hide (DL.wipe e1 vs)) vs1 (fun acc => P acc e1) (items.drop i) accD,
    ⟨_, [], [], rfl, Nat.zero_le _, Keep.same F1.g (same_upd hD), upd_same, rfl, by simpa using q1⟩, ?_⟩
  rintro i m H2 ⟨acc, accD, rfl, hle, kp, hDa, racc, q2⟩
  have mv : Mv O H1 O' H2 := fun a o e n => ⟨kp.stab F1.zo a o e n, fun z => z.elim n fun z => by rw [z, hD] at e; cases e⟩
  have F2 := F1.keep kp
  have hO' : ∀ p, H2 p = none → ¬ O' p := fun p hp z => by
    rcases z with z | z
    · exact F2.nO hp z
    · rw [z, hDa] at hp; cases hp
  obtain ⟨dgo, dst⟩ := dr O' H2 mv hO' i
  by_cases hlt : i < items.length
  · rw [List.drop_eq_getElem_cons hlt] at q2
    obtain ⟨go, yl⟩ := dgo items[i] (List.getElem?_eq_getElem hlt)
    refine .inr ⟨go, fun H' => ∃ acc accD, Keep W H1 H' ∧ H' D = some (.lst acc) ∧ Rps W O' H' accD acc ∧ lc2Loop g mt mi1 g1 mt1 me (hide (DL.wipe e1 vs)) vs1 (fun acc => P acc e1) (items.drop (i + 1)) accD,
      fun H' ⟨acc', accD', h1, h2, h3, h5⟩ => ⟨items.length - (i + 1), by omega, acc', accD', rfl, hlt, h1, h2, h3, h5⟩, fun x H3 hy => ?_⟩
    obtain ⟨sm, rx⟩ := yl x H3 hy
    have kp3 : Keep W H1 H3 := kp.trans (Keep.same kp.1 sm)
    have F3 := F1.keep kp3
    have hD3 : H3 D = some (.lst acc) := sm D _ hDa
    have mv3 : Mv O H1 O' H3 := fun a o e n => ⟨kp3.stab F1.zo a o e n, fun z => z.elim n fun z => by rw [z, hD] at e; cases e⟩
    have Fi : FR W O' H3 O' H3 (L2.wipe σ vs) (hide (DL.wipe e1 vs)) := F3.inner (O' := O') (fun a h => .inl h) (fun a h => by
      rcases h with h | h
      · exact F3.dom a h
      · rw [h]; exact ⟨_, hD3⟩) (fun j d v h1 h2 r => by
        obtain ⟨v', e', r'⟩ := F1.slot j _ h1
        rw [h2] at e'
        cases e'
        exact Rep.mv mv3 r') vs
    refine ⟨W, O', H3, O', _, items[i], _, Fi, rx, q2, fun H4 σ4 e4 F4 s4 w4 q4 => ⟨?_, ?_⟩⟩
    · exact (w4 vs hus).trans (wipe_wipeB σ vs)
    · refine ⟨W, O', H3, O', e4, _, F4, q4, fun H5 b e5 F5 s5 q5 => ?_⟩
      have kp5 : Keep W H1 H5 := kp3.trans F5.rt
      have st35 : Stab O' H3 H5 := s4.trans s5
      cases b with
      | false => exact iteF ⟨acc, accD, kp5, F5.kept D _ hD3 hZD, Reps.stab ((Stab.of sm).trans st35) racc, q5⟩
      | true =>
        refine iteT ⟨W, O', H3, O', e5, _, F5, q5, fun H6 J1 items1 e6 F6 s6 dr1 ⟨hcap, q6⟩ => ?_⟩
        have kp6 : Keep W H1 H6 := kp3.trans F6.rt
        have hD6 : H6 D = some (.lst acc) := F6.kept D _ hD3 hZD
        have racc6 : Rps W O' H6 accD acc := Reps.stab ((Stab.of sm).trans (st35.trans s6)) racc
        refine ⟨fun j k H7 => ∃ acc' accD', k = items1.length - j ∧ j ≤ items1.length ∧ Keep W H1 H7 ∧ Stab O' H6 H7 ∧ H7 D = some (.lst acc') ∧ Rps W O' H7 accD' acc' ∧ accD'.length ≤ accD.length + j ∧ lcLoop g1 mt1 me (hide (DL.wipe e6 vs1)) (fun acc => lc2Loop g mt mi1 g1 mt1 me (hide (DL.wipe e1 vs)) vs1 (fun acc => P acc e1) (items.drop (i + 1)) acc) (items1.drop j) accD',
          ⟨_, acc, accD, rfl, Nat.zero_le _, kp6, Stab.refl, hD6, racc6, Nat.le_refl _, by simpa using q6⟩, ?_⟩
        rintro j k H7 ⟨acc', accD', rfl, hle1, kp7, st7, hD7, racc7, hal7, q7⟩
        have dom7 : ∀ a, O' a → ∃ o, H7 a = some o := fun a h => by
          rcases h with h | h
          · exact (F1.keep kp7).dom a h
          · rw [h]; exact ⟨_, hD7⟩
        have hO7 : ∀ p, H7 p = none → ¬ O' p := fun p hp z => by
          obtain ⟨o, q⟩ := dom7 p z
          rw [hp] at q; cases q
        obtain ⟨dgo1, dst1⟩ := dr1 O' H7 (Mv.of st7) hO7 j
        by_cases hlt1 : j < items1.length
        · rw [List.drop_eq_getElem_cons hlt1] at q7
          obtain ⟨go1, yl1⟩ := dgo1 items1[j] (List.getElem?_eq_getElem hlt1)
          refine .inr ⟨go1, fun H' => ∃ acc' accD', Keep W H1 H' ∧ Stab O' H6 H' ∧ H' D = some (.lst acc') ∧ Rps W O' H' accD' acc' ∧ accD'.length ≤ accD.length + (j + 1) ∧ lcLoop g1 mt1 me (hide (DL.wipe e6 vs1)) (fun acc => lc2Loop g mt mi1 g1 mt1 me (hide (DL.wipe e1 vs)) vs1 (fun acc => P acc e1) (items.drop (i + 1)) acc) (items1.drop (j + 1)) accD',
            fun H' ⟨a1, a2, h1, h2, h3, h4, h5, h6⟩ => ⟨items1.length - (j + 1), by omega, a1, a2, rfl, hlt1, h1, h2, h3, h4, h5, h6⟩, fun x1 H8 hy1 => ?_⟩
          obtain ⟨sm8, rx8⟩ := yl1 x1 H8 hy1
          have kp8 : Keep W H1 H8 := kp7.trans (Keep.same kp7.1 sm8)
          have hD8 : H8 D = some (.lst acc') := sm8 D _ hD7
          have st8 : Stab O' H6 H8 := st7.trans (Stab.of sm8)
          have Fi8 : FR W O' H8 O' H8 (L2.wipe σ4 vs1) (hide (DL.wipe e6 vs1)) := F6.innerB kp8.1 st8 (fun a h => by
            obtain ⟨o, q⟩ := dom7 a h
            exact ⟨o, sm8 a o q⟩) vs1
          refine ⟨W, O', H8, O', _, items1[j], _, Fi8, rx8, q7, fun H9 σ9 e9 F9 s9 w9 q9 => ⟨?_, ?_⟩⟩
          · exact (w9 vs1 hus1).trans (wipe_wipeB σ4 vs1)
          · refine ⟨W, O', H8, O', e9, _, F9, q9, fun H10 b10 e10 F10 s10 q10 => ?_⟩
            cases b10 with
            | false =>
              have kp10 : Keep W H1 H10 := kp8.trans F10.rt
              exact iteF ⟨acc', accD', kp10, st8.trans (s9.trans s10), F10.kept D _ hD8 hZD, Reps.stab ((Stab.of sm8).trans (s9.trans s10)) racc7, by omega, q10⟩
            | true =>
              refine iteT ⟨W, O', H8, O', e10, _, F10, q10, fun H11 y dy e11 F11 s11 ry q11 => ?_⟩
              have kp11 : Keep W H1 H11 := kp8.trans F11.rt
              have hD11 : H11 D = some (.lst acc') := F11.kept D _ hD8 hZD
              have st811 : Stab O' H8 H11 := s9.trans (s10.trans s11)
              have racc11 : Rps W O' H11 accD' acc' := Reps.stab ((Stab.of sm8).trans st811) racc7
              have keepD : ∀ a o, H11 a = some o → a ≠ D → upd H11 D (.lst (acc' ++ [y])) a = some o := fun a o e n => by rw [upd_ne n]; exact e
              have st11 : Stab O' H11 (upd H11 D (.lst (acc' ++ [y]))) := fun a o e n => keepD a o e fun z => n (.inr z)
              have gl : W.G (upd H11 D (.lst (acc' ++ [y]))) := W.loc H11 _ (fun a z => upd_ne fun q => hZD (q ▸ z)) F11.g
              refine ⟨acc', hD11, ?_, acc' ++ [y], accD' ++ [dy], ⟨gl, fun a o e n => ?_⟩, (st8.trans st811).trans st11, upd_same, Reps.stab st11 (racc11.app (Reps.one ry)), ?_, q11⟩
              · have := racc7.length
                rw [this, ← ln_eq]
                omega
              · exact keepD a o (kp11.2 a o e n) fun z => by rw [z, hD] at e; cases e
              · rw [List.length_append, List.length_singleton]; omega
        · have e : j = items1.length := by omega
          subst e
          rw [List.drop_length] at q7
          exact .inl ⟨dst1 (Nat.le_refl _), acc', accD', kp7, hD7, racc7, q7⟩
  · have e : i = items.length := by omega
    subst e
    rw [List.drop_length] at q2
    refine .inl ⟨dst (Nat.le_refl _), ?_⟩
    exact hq H2 D acc accD e1 F2 (F1.addO hD kp ⟨_, hDa, .inl ⟨_, rfl⟩⟩) (s1.trans (kp.stab F1.zo)) (F.back F1 s1 hD) (F1.new0 hD) nOD hDa racc q2
theorem fv_lc2 {vs vs1 : List Nat} (hc : X.calm = true) (hN : X.N.Nodup) (hi : IV X Tb tg iter mi) (ok : BlkOk X.N X.env.scope scope own) (hv : ∀ i ∈ vs1, i ∈ own.map (·.2)) (hus : ∀ i ∈ us, i ∈ own.map (·.2)) (hus1 : ∀ i ∈ us1, i ∈ vs1)
    (hg : ∀ (s : Shared) (H : Hp) (C : Addr) (cl : List (Str × Addr)) (fp : List Addr), GV (X.blk s H scope (compEnvC scope cl C X.env) fp) Tb tg g us)
    (ht : ∀ (s : Shared) (H : Hp) (C : Addr) (cl : List (Str × Addr)) (fp : List Addr), FTV (X.blk s H scope (compEnvC scope cl C X.env) fp) Tb ifs mt)
    (hi1 : ∀ (s : Shared) (H : Hp) (C : Addr) (cl : List (Str × Addr)) (fp : List Addr), IV (X.blk s H scope (compEnvC scope cl C X.env) fp) Tb tg1 iter1 mi1)
    (hg1 : ∀ (s : Shared) (H : Hp) (C : Addr) (cl : List (Str × Addr)) (fp : List Addr), GV (X.blk s H scope (compEnvC scope cl C X.env) fp) Tb tg1 g1 us1)
    (ht1 : ∀ (s : Shared) (H : Hp) (C : Addr) (cl : List (Str × Addr)) (fp : List Addr), FTV (X.blk s H scope (compEnvC scope cl C X.env) fp) Tb ifs1 mt1)
    (he : ∀ (s : Shared) (H : Hp) (C : Addr) (cl : List (Str × Addr)) (fp : List Addr), EV (X.blk s H scope (compEnvC scope cl C X.env) fp) Tb elt me)
    (hs : ∀ x, foldedSetIterable iter X.env x = pure x := by intro _; rfl) (hs1 : ∀ env x, foldedSetIterable iter1 env x = pure x := by intro _ _; rfl) (hvs : own.map (·.2) = vs := by rfl) :
    FV X Tb (.ListComp elt [⟨tg, iter, ifs, 0⟩, ⟨tg1, iter1, ifs1, 0⟩] scope pos) (fLc2 mi g mt mi1 g1 mt1 me vs vs1) := by
  subst hvs
  obtain ⟨wi, pi, hi⟩ := hi.ex
  refine ⟨_, pe_lc2 hc hN pi ok hv (g := TGm X.K Tb g us) (tt := TTm X.K Tb mt) (wi1 := TImB X.K Tb mi1) (g1 := TGm X.K Tb g1 us1) (tt1 := TTm X.K Tb mt1) (te := TEm X.K Tb me) (fun s H C cl fp => (hg s H C cl fp).pg) (fun s H C cl fp => (ht s H C cl fp).pt) (fun s H C cl fp => (hi1 s H C cl fp).piB) (fun s H C cl fp => (hg1 s H C cl fp).pg) (fun s H C cl fp => (ht1 s H C cl fp).pt) (fun s H C cl fp => (he s H C cl fp).pe) hs hs1, fun W Oc H0 O H σ env Q P F hm hq => ?_⟩
  exact lc2_read W Oc H0 O H σ env Q P _ _ hus hus1 hi F hm hq
/-- y = [.. for .. for ..], y a local -/
theorem sv_setLc2 {vs vs1 : List Nat} {i : Nat} {y : Str} {py spos : Pos} (hc : X.calm = true) (hN : X.N.Nodup) (hy : X.N[i]? = some y) (hyl : X.env.scope.names.lookup y = some .local)
    (hsw : swapsWith (.ListComp elt [⟨tg, iter, ifs, 0⟩, ⟨tg1, iter1, ifs1, 0⟩] scope pos) (some (.Name y py)) spos.line X.env = pure true) (hi : IV X Tb tg iter mi) (ok : BlkOk X.N X.env.scope scope own) (hv : ∀ i ∈ vs1, i ∈ own.map (·.2)) (hus : ∀ i ∈ us, i ∈ own.map (·.2)) (hus1 : ∀ i ∈ us1, i ∈ vs1)
    (hg : ∀ (s : Shared) (H : Hp) (C : Addr) (cl : List (Str × Addr)) (fp : List Addr), GV (X.blk s H scope (compEnvC scope cl C X.env) fp) Tb tg g us)
    (ht : ∀ (s : Shared) (H : Hp) (C : Addr) (cl : List (Str × Addr)) (fp : List Addr), FTV (X.blk s H scope (compEnvC scope cl C X.env) fp) Tb ifs mt)
    (hi1 : ∀ (s : Shared) (H : Hp) (C : Addr) (cl : List (Str × Addr)) (fp : List Addr), IV (X.blk s H scope (compEnvC scope cl C X.env) fp) Tb tg1 iter1 mi1)
    (hg1 : ∀ (s : Shared) (H : Hp) (C : Addr) (cl : List (Str × Addr)) (fp : List Addr), GV (X.blk s H scope (compEnvC scope cl C X.env) fp) Tb tg1 g1 us1)
    (ht1 : ∀ (s : Shared) (H : Hp) (C : Addr) (cl : List (Str × Addr)) (fp : List Addr), FTV (X.blk s H scope (compEnvC scope cl C X.env) fp) Tb ifs1 mt1)
    (he : ∀ (s : Shared) (H : Hp) (C : Addr) (cl : List (Str × Addr)) (fp : List Addr), EV (X.blk s H scope (compEnvC scope cl C X.env) fp) Tb elt me)
    (hs : ∀ x, foldedSetIterable iter X.env x = pure x := by intro _; rfl) (hs1 : ∀ env x, foldedSetIterable iter1 env x = pure x := by intro _ _; rfl) (hvs : own.map (·.2) = vs := by rfl) :
    SV X Tb (.Assign [.Name y py] (.ListComp elt [⟨tg, iter, ifs, 0⟩, ⟨tg1, iter1, ifs1, 0⟩] scope pos) spos) (sSet i (eFr (fLc2 mi g mt mi1 g1 mt1 me vs vs1))) := by
  subst hvs
  obtain ⟨wi, pi, hi⟩ := hi.ex
  refine ⟨_, ps_setLc2 hc hN hy hyl hsw pi ok hv (g := TGm X.K Tb g us) (tt := TTm X.K Tb mt) (wi1 := TImB X.K Tb mi1) (g1 := TGm X.K Tb g1 us1) (tt1 := TTm X.K Tb mt1) (te := TEm X.K Tb me) (fun s H C cl fp => (hg s H C cl fp).pg) (fun s H C cl fp => (ht s H C cl fp).pt) (fun s H C cl fp => (hi1 s H C cl fp).piB) (fun s H C cl fp => (hg1 s H C cl fp).pg) (fun s H C cl fp => (ht1 s H C cl fp).pt) (fun s H C cl fp => (he s H C cl fp).pe) hs hs1, fun W Oc H0 O H σ env D E F hm k => ?_⟩
  refine lc2_read W Oc H0 O H σ env _ _ _ _ hus hus1 hi F hm fun H1 p vs ds e1 F1 F1' s1 pH p0 nO hp r q1 => ?_
  exact k.nx O H1 _ _ (F1.ilt (d := .lst ds) ⟨p, vs, rfl, hp, nO, Reps.weak (fun a h => .inl h) r⟩) (Mv.of s1) q1
end
end DL

set_option Elab.async false
set_option linter.all false
set_option autoImplicit false
set_option maxRecDepth 100000
set_option maxHeartbeats 1000000
/-! DK: tuples of ints whose object is known to have no dict (D.rnk): made, added, indexed. -/
namespace DL
open PySem PySem.Spec PyProof.Rows L2
mutual
/-- as a plain tuple -/
def unr : D → D
  | .rnk ns => .tup (ns.map D.int)
  | .tup xs => .tup (unrs xs)
  | .lst xs => .lst (unrs xs)
  | .dct ks vs => .dct ks (unrs vs)
  | d => d
def unrs : List D → List D
  | [] => []
  | x :: xs => unr x :: unrs xs
end
theorem unrs_map : ∀ xs : List D, unrs xs = xs.map unr
  | [] => rfl
  | x :: xs => by rw [unrs, unrs_map xs, List.map_cons]
section
variable {K : PySem.W.Frag} {Pl O : Addr → Prop} {H : Hp}
mutual
theorem rep_unr : ∀ {d : D} {v : V}, Rep K Pl O H d v → Rep K Pl O H (unr d) v
  | .non, _, h => h
  | .bl _, _, h => h
  | .int _, _, h => h
  | .str _, _, h => h
  | .tup ds, _, h => by
    obtain ⟨a, vs, e, q, n, r⟩ := h
    exact ⟨a, vs, e, q, n, reps_unr r⟩
  | .lst ds, _, h => by
    obtain ⟨a, vs, e, q, n, r⟩ := h
    exact ⟨a, vs, e, q, n, reps_unr r⟩
  | .dct ks vs, _, h => by
    obtain ⟨a, e, n, h⟩ := h
    rcases h with ⟨m, q, e1, r⟩ | ⟨m, q, e1, r⟩
    · exact ⟨a, e, n, .inl ⟨m, q, e1, reps_unr r⟩⟩
    · exact ⟨a, e, n, .inr ⟨m, q, e1, reps_unr r⟩⟩
  | .pool, _, h => h
  | .frz _, _, h => h
  | .gd _ _, _, h => h
  | .rnk ns, _, h => by
    obtain ⟨a, o, e, q, c, d, n⟩ := h
    exact ⟨a, _, e, .inr ⟨o, q⟩, n, reps_ints ns⟩
theorem reps_unr : ∀ {ds : List D} {vs : List V}, Reps K Pl O H ds vs → Reps K Pl O H (unrs ds) vs
  | [], _, h => h
  | d :: ds, _, h => by
    obtain ⟨v, r, e, h1, h2⟩ := h
    exact ⟨v, r, e, rep_unr h1, reps_unr h2⟩
end
end
@[simp] theorem unr_rnk (ns : List Int) : unr (.rnk ns) = .tup (ns.map D.int) := rfl
@[simp] theorem unr_int (i : Int) : unr (.int i) = .int i := rfl
@[simp] theorem unr_bl (i : Bool) : unr (.bl i) = .bl i := rfl
@[simp] theorem unr_non : unr .non = .non := rfl
@[simp] theorem unr_str (x : Str) : unr (.str x) = .str x := rfl
@[simp] theorem unr_lst (xs : List D) : unr (.lst xs) = .lst (xs.map unr) := by rw [unr, unrs_map]
@[simp] theorem unr_tup (xs : List D) : unr (.tup xs) = .tup (xs.map unr) := by rw [unr, unrs_map]
@[simp] def eUnr (m : ME) : ME := fun env P => m env fun d e1 => P (unr d) e1
@[simp] def intsOf : List D → Option (List Int)
  | [] => some []
  | .int i :: xs => (intsOf xs).map (i :: ·)
  | _ => none
theorem intsOf_eq : ∀ {xs : List D} {ns : List Int}, intsOf xs = some ns → xs = ns.map D.int
  | [], ns, h => by simp at h; subst h; rfl
  | x :: xs, ns, h => by
    cases x <;> first | (simp at h; done) | skip
    simp only [intsOf, Option.map_eq_some_iff] at h
    obtain ⟨ms, h1, rfl⟩ := h
    rw [intsOf_eq h1]; rfl
@[simp] theorem intsOf_map : ∀ ns : List Int, intsOf (ns.map D.int) = some ns
  | [] => rfl
  | n :: ns => by rw [List.map_cons, intsOf, intsOf_map ns]; rfl
@[simp] def eTupK (mr : MA) : ME := fun env P => mr env fun xs e1 => match intsOf xs with
  | some ns => ns.length ≤ LN ∧ P (.rnk ns) e1
  | none => False
def oCatK : O2 := fun x y P => match x, y with
  | .rnk a, .rnk b => a.length + b.length ≤ LN ∧ P (.rnk (a ++ b))
  | _, _ => False
@[simp] def fTupleK : FD := fun ds P => match ds with
  | [.rnk ns] => P (.rnk ns)
  | [.lst xs] => ∃ ns : List Int, xs = ns.map D.int ∧ P (.rnk ns)
  | _ => False
def eIdxK (a b : ME) : ME := fun env P => a env fun x e1 => match x with
  | .rnk ns => b e1 fun y e2 => match y with
    | .int i => i ∈ ns ∧ P (.int (ns.idxOf i : Nat)) e2
    | _ => False
  | _ => False
section
variable {X : Cx} {Tb : Addr → Prop} {e o : Expr} {es : List Expr} {m mo : ME} {mr : MA} {pos p apos : Pos}
theorem ev_unr (h : EV X Tb e m) : EV X Tb e (eUnr m) := by
  obtain ⟨t, pe, h⟩ := h.ex
  refine ⟨t, pe, fun W Oc H0 O H σ env Q P F hm hq => ?_⟩
  exact h W Oc H0 O H σ env _ _ F hm fun H1 v d e1 F1 s1 r1 q1 => hq H1 v _ e1 F1 s1 (rep_unr r1) q1
/-! ### made -/
abbrev tobj (us : List Value) : Obj := { cls := .type "tuple", data := .seq us.toArray }
theorem okFrz {P : Program} {w : World} {H : Hp} {h : Heap} {xs : List V} {us : List Value} (z : xs.length ≤ sizeLine) (r : Vals xs us) : ObjOk P w H (h.push (tobj us)) h.objs.size (.frz (tobj us) (.tup xs)) :=
  ⟨Heap.get?_push_size _ rfl, z, us, r, _, Heap.get?_push_size _ rfl, rfl, _, rfl⟩
/-- a new tuple, its object known -/
def NewK (H : Hp) (xs : List V) (Q : VK) : Prop := ∀ (q : Addr) (o : Obj), H q = none → o.cls = .type "tuple" → o.dict = none → Q (.ref q) (upd H q (.frz o (.tup xs)))
def tTupK (t : TA) : TE := fun σ H Q => t σ H fun xs H1 => xs.length ≤ sizeLine ∧ NewK H1 xs Q
theorem pe_tupK {t : TA} {x1} (h : PA X es t) : PE X (.Tuple es x1 pos) (tTupK t) := by
  constructor
  intro pins s σ H Q I hq
  refine wpAny_Tuple_spliced (thn (h.run pos pins s σ H _ I hq) fun us s1 hx => ?_)
  obtain ⟨xs, H1, I1, r, z, q⟩ := hx
  refine ⟨by rw [← r.length]; exact z, .ref s1.heap.objs.size, _, I1.laid (t' := s1.toks) (fun b u e => Heap.get?_push_of_some _ e) (Nat.le_refl _) (okFrz z r), rfl, ?_⟩
  exact q _ _ (I1.hok.fresh (Nat.le_refl _)) rfl rfl
theorem new_rnk {W : Wd X.K Tb} {Oc O : Addr → Prop} {H0 H : Hp} {σ : St} {env : DEnv} {ns : List Int} {q : Addr} {o : Obj} (F : FR W Oc H0 O H σ env) (h : H q = none) (c : o.cls = .type "tuple") (d : o.dict = none) : Rp W O (upd H q (.frz o (.tup (ns.map V.int)))) (.rnk ns) (.ref q) :=
  ⟨q, o, rfl, upd_same, c, d, F.nO h⟩
theorem ev_tupK {x1} (h : AV X Tb es mr) : EV X Tb (.Tuple es x1 pos) (eTupK mr) := by
  obtain ⟨t, pa, h1⟩ := h.ex
  refine ⟨_, pe_tupK pa, fun W Oc H0 O H σ env Q P F hm hq => ?_⟩
  refine h1 W Oc H0 O H σ env _ _ F hm fun H1 xs ds e1 F1 s1 r1 q1 => ?_
  cases e : intsOf ds with
  | none => rw [e] at q1; exact q1.elim
  | some ns =>
  rw [e] at q1
  obtain ⟨z, q1⟩ := q1
  have e := intsOf_eq e
  subst e
  have e := reps_intV r1
  subst e
  refine ⟨by rw [List.length_map, ← ln_eq]; exact z, fun q o hp c d => ?_⟩
  exact hq _ _ _ e1 (F1.same (same_upd hp)) (s1.trans (Stab.of (same_upd hp))) (new_rnk F1 hp c d) q1
/-! ### tuple(..) of a list of ints -/
def rTupK (K : PySem.W.Frag) : List V → Hp → VK → Prop := fun xs H Q => ∃ (a : Addr) (ys : List V), xs = [.ref a] ∧ ((SqL K H a ys ∧ NewK H ys Q) ∨ (SqT K H a ys ∧ Q (.ref a) H))
theorem call_tupK : CallR X (.type "tuple") (rTupK X.K) := by
  intro pins s σ H xs us Q I r h
  obtain ⟨a, ys, rfl, ⟨ha, q⟩ | ⟨ha, q⟩⟩ := h
  · obtain ⟨u, rfl, rx⟩ := vals1 r
    cases rx
    obtain ⟨its, r2, pl, hz⟩ := I.list ha
    have hn := r2.length
    refine call_tuple_list pl.isList (fun h' kp => ?_) (by rw [List.size_toArray]; omega)
    have J : Inv X pins σ H { s with heap := h' } := I.kept (t' := s.toks) kp
    exact ⟨.ref h'.objs.size, _, J.laid (t' := s.toks) (fun b u e => Heap.get?_push_of_some _ e) (Nat.le_refl _) (okFrz hz r2), rfl, q _ _ (J.hok.fresh (Nat.le_refl _)) rfl rfl⟩
  · obtain ⟨u, rfl, rx⟩ := vals1 r
    cases rx
    obtain ⟨its, r2, pl, hz⟩ := I.tuple ha
    exact call_tuple_same pl ⟨.ref a, H, I, rfl, q⟩
theorem cv_tupleK : CV X (.type "tuple") fTupleK := by
  refine ⟨_, call_tupK, fun Pl O H ds vs Q P hO r h hq => ?_⟩
  unfold fTupleK at h
  split at h
  · obtain ⟨v, us, rfl, r1, e⟩ := r
    cases e
    obtain ⟨a, o, rfl, q, c, d, n⟩ := id r1
    exact ⟨a, _, rfl, .inr ⟨.inl (.inr ⟨o, q⟩), hq H _ _ (Same.refl _) r1 h⟩⟩
  · obtain ⟨ns, rfl, h⟩ := h
    obtain ⟨v, us, rfl, ⟨a, ws, rfl, qa, na, ra⟩, e⟩ := r
    cases e
    have e := reps_intV ra
    subst e
    exact ⟨a, _, rfl, .inl ⟨SqL.of qa, fun q o hp c d => hq _ _ (.rnk ns) (same_upd hp) ⟨q, o, rfl, upd_same, c, d, hO q hp⟩ h⟩⟩
  · exact False.elim h
/-! ### t + u -/
def rCatK (K : PySem.W.Frag) : R2 := fun x y H Q => ∃ (a b : Addr) (xs ys : List V), x = .ref a ∧ y = .ref b ∧ (SqT K H a xs ∧ SqT K H b ys) ∧ xs.length + ys.length ≤ sizeLine ∧ (xs = [] → Q (.ref b) H) ∧ (xs ≠ [] → ys = [] → Q (.ref a) H) ∧ (xs ≠ [] → ys ≠ [] → NewK H (xs ++ ys) Q)
theorem op_catK : OpR X (binaryOp .Add) (rCatK X.K) := by
  intro pins s σ H x y v u Q I rx ry h
  obtain ⟨a, b, xs, ys, rfl, rfl, ⟨ha, hb⟩, hz, q0, q1, q2⟩ := h
  cases rx
  cases ry
  obtain ⟨its, r1, p1, _⟩ := I.tuple ha
  obtain ⟨its2, r2, p2, _⟩ := I.tuple hb
  by_cases hx : xs = []
  · subst hx
    cases r1
    exact L2.cat_tup0 p1 p2 ⟨.ref b, H, I, rfl, q0 rfl⟩
  · refine HT.cat_tup p1 p2 (fun z => hx (r1.nil_iff.mp z)) (fun z => ⟨.ref a, H, I, rfl, q1 hx (r2.nil_iff.mp z)⟩) (fun z => ?_) (by rw [← r1.length, ← r2.length]; exact hz)
    have hy : ys ≠ [] := fun w => z (r2.nil_iff.mpr w)
    exact ⟨.ref s.heap.objs.size, _, I.laid (t' := s.toks) (fun b ob q => Heap.get?_push_of_some _ q) (Nat.le_refl _) (okFrz (by rw [List.length_append]; exact hz) (r1.append r2)), rfl, q2 hx hy _ _ (I.hok.fresh (Nat.le_refl _)) rfl rfl⟩
theorem ov_catK : OV X (binaryOp .Add) oCatK := by
  refine ⟨_, op_catK, fun Pl O H x y v u Q P hO rx ry h hq => ?_⟩
  cases x <;> cases y <;> first | exact False.elim h | skip
  rename_i ns ms
  obtain ⟨a, o, rfl, qa, ca, da, na⟩ := id rx
  obtain ⟨b, o2, rfl, qb, cb, db, nb⟩ := id ry
  refine ⟨a, b, _, _, rfl, rfl, ⟨.inl (.inr ⟨o, qa⟩), .inl (.inr ⟨o2, qb⟩)⟩, by rw [List.length_map, List.length_map, ← ln_eq]; exact h.1, fun e => ?_, fun _ e => ?_, fun _ _ q o hp c d => ?_⟩
  · have : ns = [] := by simpa using e
    subst this
    exact hq H _ _ (Same.refl _) ry (by simpa using h.2)
  · have : ms = [] := by simpa using e
    subst this
    exact hq H _ _ (Same.refl _) rx (by simpa using h.2)
  · rw [← List.map_append]
    exact hq _ _ (.rnk (ns ++ ms)) (same_upd hp) ⟨q, o, rfl, upd_same, c, d, hO q hp⟩ h.2
/-! ### index -/
def tIxK (to : TE) (t : TA) : TE := fun σ H Q => to σ H fun x H1 => ∃ (a : Addr) (ob : Obj) (ns : List Int), x = .ref a ∧ H1 a = some (.frz ob (.tup (ns.map V.int))) ∧ ob.cls = .type "tuple" ∧ ob.dict = none ∧
  t σ H1 fun ys H2 => ∃ i : Int, ys = [.int i] ∧ i ∈ ns ∧ H2 a = some (.frz ob (.tup (ns.map V.int))) ∧ Q (.int (ns.idxOf i : Nat)) H2
theorem pe_ixK {to : TE} {t : TA} (ho : PE X o to) (ha : PA X [e] t) (hb : attributeBase o "index" X.env (eval o X.env) = eval o X.env := by rfl) (hl : (apos.endLine == pos.line) = true := by rfl) (he : starEach [e] X.env = (false, eval e X.env) :: starEach [] X.env := by rfl)
    (hfew : ((backTo pos (starEach [e] X.env)).all (fun x => !x.1) && (backToKw pos (keywordEach [] X.env)).all (fun x => x.1.isSome) && decide ([e].length + ([] : List Keyword).length + (if ([] : List Keyword).isEmpty then 0 else 1) < 30)) = true := by rfl) :
    PE X (.Call (.Attribute o "index" apos) [e] [] pos) (tIxK to t) := by
  constructor
  intro pins s σ H Q I h
  refine wpAny_Call_method_late hb hfew hl rfl (thn (ho.run pins s σ H _ I h) fun v s1 hv => ?_)
  obtain ⟨x, H1, I1, r1, a, ob, ns, ex, ha1, hc, hd, q1⟩ := hv
  subst ex
  cases r1
  have hob : s1.heap.get? a = some ob := (I1.hok a _ ha1).1
  refine ⟨"tuple", "tuple.index", PySem.F.plainAttrs_tuple, PySem.F.slot_tuple_index, PySem.F.type_tuple_index, ⟨ob, hob, hc⟩, fun b eb => ⟨ob, by cases eb; exact hob, hd⟩, ?_⟩
  have hA := ha.run pos pins s1 σ H1 _ I1 q1
  rw [he] at hA ⊢
  refine Calls.callWith_builtin (by rfl) (Calls.evalArgs_plain (thn hA fun us s2 hu => ?_))
  obtain ⟨ys, H2, I2, r2, i, ey, hi, ha2, q2⟩ := hu
  subst ey
  obtain ⟨u, rfl, k, rfl⟩ := vals1 r2
  obtain ⟨its, r3, pl, hz⟩ := I2.tuple (.inl (.inr ⟨ob, ha2⟩))
  exact SeqAt.tuple_index_ints pl (Vals.ints r3) hi ⟨.int (ns.idxOf i : Nat), H2, I2.tok _, ⟨_, rfl⟩, q2⟩
theorem ev_idxK (hx : EV X Tb o mo) (h : EV X Tb e m) (hb : attributeBase o "index" X.env (eval o X.env) = eval o X.env := by rfl) (hl : (apos.endLine == pos.line) = true := by rfl) (he : starEach [e] X.env = (false, eval e X.env) :: starEach [] X.env := by rfl)
    (hfew : ((backTo pos (starEach [e] X.env)).all (fun x => !x.1) && (backToKw pos (keywordEach [] X.env)).all (fun x => x.1.isSome) && decide ([e].length + ([] : List Keyword).length + (if ([] : List Keyword).isEmpty then 0 else 1) < 30)) = true := by rfl) :
    EV X Tb (.Call (.Attribute o "index" apos) [e] [] pos) (eIdxK mo m) := by
  obtain ⟨to, po, ho⟩ := hx.ex
  obtain ⟨t, pe, h⟩ := h.ex
  refine ⟨_, pe_ixK po (pa_cons pe pa_nil he) hb hl he hfew, fun W Oc H0 O H σ env Q P F hm hq => ?_⟩
  refine ho W Oc H0 O H σ env _ _ F hm fun H1 v d e1 F1 s1 r1 q1 => ?_
  cases d with
  | rnk ns =>
    obtain ⟨a, ob, rfl, qa, c, hd, na⟩ := id r1
    refine ⟨a, ob, ns, rfl, qa, c, hd, ?_⟩
    refine h W Oc H0 O H1 σ e1 _ _ F1 q1 fun H2 v2 d2 e2 F2 s2 r2 q2 => ?_
    cases d2 with
    | int i => exact ⟨i, by rw [show v2 = _ from r2], q2.1, s2 a _ qa na, hq H2 _ (.int _) e2 F2 (s1.trans s2) rfl q2.2⟩
    | _ => exact False.elim q2
  | _ => exact False.elim q1
end
/-- a def whose result is a known tuple, for those who want a plain one -/
theorem df_unr {P : Program} {w : World} {K : PySem.W.Frag} {mg : Str → Option Value} {base : Heap} {Tb : Addr → Prop} {x : Str} {ps : List Str} {k : Nat} {F F' : FD} (d : DfOk P w K mg base x ps k (spD K Tb F)) (h : ∀ ds P, F' ds P → F ds fun d => P (unr d)) : DfOk P w K mg base x ps k (spD K Tb F') := by
  obtain ⟨f, fd, o, r⟩ := d.ex
  exact ⟨f, fd, o.imp fun vs H Q E ⟨W, Oc, ds, P, g, zc, dc, rp, hf, hq⟩ => ⟨W, Oc, ds, fun d => P (unr d), g, zc, dc, rp, h ds P hf, fun H' v d kp r p => hq H' v (unr d) kp (rep_unr r) p⟩, r⟩
end DL

set_option Elab.async false
set_option linter.all false
set_option autoImplicit false
set_option maxRecDepth 100000
/-! DC11: rankings whose places are asked; strata, demand_consistent. -/
namespace DL
open PySem (Str)
def rkD (r : List Nat) : D := .rnk (r.map fun k : Nat => (k : Int))
abbrev lK (rs : List (List Nat)) : D := .lst (rs.map rkD)
@[simp] theorem unr_rkD (r : List Nat) : unr (rkD r) = tN r := by simp [rkD, oCatK]
@[simp] theorem cat_rk (r : List Nat) (c : Nat) (P : D → Prop) : oCatK (rkD r) (.rnk [(c : Int)]) P = (r.length + 1 ≤ LN ∧ P (rkD (r ++ [c]))) := by simp [rkD, oCatK]
theorem rnk_nil : D.rnk [] = rkD [] := rfl
theorem idx_map (r : List Nat) (c : Nat) : (r.map fun k : Nat => (k : Int)).idxOf (c : Int) = r.idxOf c := by
  induction r with
  | nil => rfl
  | cons x r ih =>
    rw [List.map_cons, List.idxOf_cons, List.idxOf_cons, ih]
    by_cases h : x = c
    · subst h; simp
    · have h1 : (x == c) = false := by simpa using h
      have h2 : ((x : Int) == (c : Int)) = false := by simp; omega
      rw [h1, h2]
theorem idx_rk (r : List Nat) (c : Nat) {env : DEnv} {P : D → DEnv → Prop} {i j : Nat} (h1 : env[i]? = some (some (.val (rkD r)))) (h2 : env[j]? = some (some (.val (dN c)))) (hc : c ∈ r) (h : P (dN (r.idxOf c)) env) : eIdxK (eVar i) (eVar j) env P := by
  simp only [eIdxK, eVar, h1, h2, rkD, idx_map]
  exact ⟨List.mem_map.mpr ⟨c, hc, rfl⟩, h⟩
def F__law_rankingsK : FD := fun ds P => ∃ n : Nat, ds = [dN n] ∧ n ≤ 7 ∧ P (lK (rk n n))
def F__law_metK : FD := fun ds P => ∃ (n : Nat) (rows : List (List Int)), ds = [dN n, lI rows] ∧ n ≤ 7 ∧ rows.length ≤ 1000 ∧ (∀ c ∈ rows, c.length = n) ∧ P (lK ((rk n n).filter fun r => rows.all (meets r)))
def F_demand_consistent : FDX := fun ds P R => ∃ (n : Nat) (rows : List (List Int)), ds = [dN n, lI rows] ∧ n ≤ 1000 ∧ rows.length ≤ 1000 ∧ (∀ c ∈ rows, c.length = n) ∧ ((peelAll n rows).2 = [] → P .non) ∧ ((peelAll n rows).2 ≠ [] → R)
def F_strata : FDX := fun ds P R => ∃ (n : Nat) (rows : List (List Int)), ds = [dN n, lI rows] ∧ n ≤ 1000 ∧ rows.length ≤ 1000 ∧ (∀ c ∈ rows, c.length = n) ∧ ((peelAll n rows).2 = [] → P (.tup ((peelAll n rows).1.map tN))) ∧ ((peelAll n rows).2 ≠ [] → R)
def F__law_told_strata : FD := fun ds P => ∃ (n : Nat) (rows : List (List Int)), ds = [dN n, lI rows] ∧ n ≤ 1000 ∧ rows.length ≤ 1000 ∧ (∀ c ∈ rows, c.length = n) ∧ ((peelAll n rows).2 = [] → P (.tup ((peelAll n rows).1.map tN))) ∧ ((peelAll n rows).2 ≠ [] → P (.str "clash"))
def mb__law_rankingsK : MS :=
  (sSeq (sSet 1 (eFr (fLst (aCons (eTupK aNil) aNil))))
    (sSeq (sFor (iRange1 (eVar 0)) (DL.gName 2)
    (sSeq (sSet 3 (eFr (fLst aNil)))
    (sSeq (sFor (iSeq (eVar 1)) (DL.gName 4)
    (sSet 3 (eBin oAdd (eVar 3) (eFr (fLc (iRange1 (eVar 0)) (DL.gName 5) (tVal (eBin oNotIn (eVar 5) (eUnr (eVar 4)))) (eBin oCatK (eVar 4) (eTupK (aCons (eVar 5) aNil))) [5])))))
    (sSet 1 (eVar 3)))))
    (sRet (eVar 1))))

def mb__law_metK : MS :=
  (sRet (eFr (fLc (iSeq (eCall F__law_rankingsK (aCons (eVar 0) aNil))) (DL.gName 2) (tVal (eCall F__law_meets_all (aCons (eUnr (eVar 2)) (aCons (eVar 1) aNil)))) (eVar 2) [2])))

def mb_demand_consistent : MSX :=
  (xRaiseIf (DL.tNot (tVal (eCall F_is_consistent (aCons (eVar 0) (aCons (eVar 1) aNil))))))

def mb_strata : MSX :=
  (xSeq (xCall F_demand_consistent (aCons (eVar 0) (aCons (eVar 1) aNil)))
    (xBv (sRet (eCall fTuple (aCons (eBin oIx (eCall F_peeled (aCons (eVar 0) (aCons (eVar 1) aNil))) (eC (.int 0))) aNil)))))

def mb__law_told_strata : MS :=
  (sTold 2 F_strata (aCons (eVar 0) (aCons (eVar 1) aNil)) "clash")

theorem hF__law_rankingsK : ∀ ds Q, F__law_rankingsK ds Q → ds.length = 1 ∧ mb__law_rankingsK { nx := fun _ => Q .non, rt := Q } (dstart 6 ds) := by
  rintro ds Q ⟨n, rfl, hn, hP⟩
  refine ⟨rfl, ?_⟩
  simp [mb__law_rankingsK, dstart]
  refine ⟨by omega, loop_ind (fun ds env => ∃ (k m : Nat) (x y z w : Option Sl), ds = intsD (k : Int) m ∧ k + m = n ∧ env = [some (.val (dN n)), some (.val (lK (rk n k))), x, y, z, w]) ?_ ?_ _ _ ⟨0, n, _, _, _, _, rfl, by omega, rfl⟩⟩
  · rintro env ⟨k, m, x, y, z, w, h, hk, rfl⟩
    cases m with
    | zero =>
      have : k = n := by omega
      subst this
      simpa using hP
    | succ m => cases h
  · rintro d ds Kk env hK ⟨k, m, x, y, z, w, h, hk, rfl⟩
    cases m with
    | zero => cases h
    | succ m =>
      cases h
      simp
      refine loop_ind (fun ds env => ∃ (pre rest : List (List Nat)) (z w : Option Sl), ds = rest.map rkD ∧ rk n k = pre ++ rest ∧ env = [some (.val (dN n)), some (.val (lK (rk n k))), some (.val (dN k)), some (.val (lK (pre.flatMap fun one => ((List.range n).filter fun c => !decide (c ∈ one)).map fun c => one ++ [c]))), z, w]) ?_ ?_ _ _ ⟨[], rk n k, _, _, rfl, rfl, rfl⟩
      · rintro env ⟨pre, rest, z, w, h, he, rfl⟩
        have : rest = [] := List.eq_nil_of_map_eq_nil h.symm
        subst this
        simp at he ⊢
        have e : (pre.flatMap fun one => ((List.range n).filter fun c => !decide (c ∈ one)).map fun c => one ++ [c]) = rk n (k + 1) := by rw [rk, he]
        have hE : ∀ (L : List (List Nat)) (x y z w : Option Sl), L = rk n (k + 1) → Kk [some (.val (dN n)), some (.val (lK L)), x, y, z, w] := fun L x y z w hL => by
          subst hL
          exact hK _ ⟨k + 1, m, _, _, _, _, rfl, by omega, rfl⟩
        exact hE _ _ _ _ _ e
      · rintro d ds Kk2 env hK2 ⟨pre, rest, z, w, h, he, rfl⟩
        cases rest with
        | nil => cases h
        | cons one rest =>
          cases h
          have hlen : ∀ l : List (List Nat), (∃ r, rk n k = l ++ r) → (l.flatMap fun one => ((List.range n).filter fun c => !decide (c ∈ one)).map fun c => one ++ [c]).length ≤ 823543 := fun l ⟨r, hr⟩ => by
            refine Nat.le_trans ?_ (rk_len7 (n := n) (k := k + 1) hn (by omega))
            rw [rk, hr, List.flatMap_append, List.length_append]
            omega
          simp [intsD_length]
          refine ⟨by omega, by omega, ?_⟩
          rw [ints0]
          refine lc_filterMap dN (fun c => rkD (one ++ [c])) (fun c => !decide (c ∈ one)) (fun c hc Kk Kn h => ?_) _ ?_
          · obtain ⟨a1, _, _⟩ := rk_mem (n := n) (k := k) (r := one) (by rw [he]; simp)
            have h60 : one.length < 16777216 := by omega
            simp at h ⊢
            by_cases hm : c ∈ one
            · simpa [hm] using h
            · have : one.length ≤ 16777215 := by omega
              simpa [hm, this] using h
          · have h1 := hlen (pre ++ [one]) ⟨rest, by rw [he]; simp⟩
            simp only [List.flatMap_append, List.length_append, List.flatMap_cons, List.flatMap_nil, List.append_nil, List.length_map] at h1
            simp
            refine ⟨by simp at h1; omega, hK2 _ ⟨pre ++ [one], rest, some (.val (rkD one)), w, rfl, by rw [he]; simp, by simp⟩⟩
theorem hF__law_metK : ∀ ds Q, F__law_metK ds Q → ds.length = 2 ∧ mb__law_metK { nx := fun _ => Q .non, rt := Q } (dstart 3 ds) := by
  rintro ds Q ⟨n, rows, rfl, hn, hl, hc, hP⟩
  refine ⟨rfl, ?_⟩
  simp [mb__law_metK, dstart]
  have h7 := rk_len7 (n := n) (k := n) hn hn
  refine ⟨n, rfl, hn, ?_⟩
  simp
  refine ⟨by omega, lc_filter rkD (fun r => rows.all (meets r)) (fun r hr Kk Kn h => ?_) _ (by simpa using hP)⟩
  simp at h ⊢
  refine ⟨r, rows, by simp, fun c hcm x hx => by rw [hc c hcm]; exact (rk_mem hr).2.2 x hx, hl, ?_⟩
  cases hm : rows.all (meets r) with
  | true => rw [List.all_eq_true] at hm; simpa [if_pos hm] using h
  | false =>
    have : ¬ ∀ x ∈ rows, meets r x = true := fun z => by rw [← List.all_eq_true, hm] at z; cases z
    simpa [if_neg this] using h
theorem hF_demand_consistent : ∀ ds Q R, F_demand_consistent ds Q R → ds.length = 2 ∧ mb_demand_consistent { nx := fun _ => Q .non, rt := Q } R (dstart 2 ds) := by
  rintro ds Q R ⟨n, rows, rfl, hn, hl, hc, h1, h2⟩
  refine ⟨rfl, ?_⟩
  simp [mb_demand_consistent, dstart]
  refine ⟨n, rows, rfl, hn, hl, hc, ?_⟩
  simp
  by_cases h : (peelAll n rows).2 = []
  · simp [h]; exact h1 h
  · simp [h]; exact h2 h
theorem hF_strata : ∀ ds Q R, F_strata ds Q R → ds.length = 2 ∧ mb_strata { nx := fun _ => Q .non, rt := Q } R (dstart 2 ds) := by
  rintro ds Q R ⟨n, rows, rfl, hn, hl, hc, h1, h2⟩
  refine ⟨rfl, ?_⟩
  simp [mb_strata, dstart]
  refine ⟨n, rows, rfl, hn, hl, hc, fun h => ⟨n, rows, rfl, hn, hl, hc, ?_⟩, h2⟩
  simp
  exact h1 h
theorem hF__law_told_strata : ∀ ds Q, F__law_told_strata ds Q → ds.length = 2 ∧ mb__law_told_strata { nx := fun _ => Q .non, rt := Q } (dstart 3 ds) := by
  rintro ds Q ⟨n, rows, rfl, hn, hl, hc, h1, h2⟩
  refine ⟨rfl, ?_⟩
  simp [mb__law_told_strata, dstart]
  exact ⟨n, rows, rfl, hn, hl, hc, h1, h2⟩
end DL

set_option Elab.async false
set_option linter.all false
set_option autoImplicit false
set_option maxRecDepth 100000
/-! DLJ: loops by place. -/
namespace DL
open PySem (Str)
theorem loop_at {α : Type} {g : MG} {body : MS} {E : DEnds} (f : α → D) (xs : List α) (I : Nat → DEnv → Prop) (hend : ∀ env, I xs.length env → E.nx env)
    (hs : ∀ (k : Nat) (hk : k < xs.length) (Kk : DEnv → Prop) (env : DEnv), (∀ e, I (k + 1) e → Kk e) → I k env → g (f xs[k]) env fun e1 => body { nx := Kk, rt := E.rt, bk := E.nx, ct := Kk } e1) (env : DEnv) (h0 : I 0 env) : loopFor g body E (xs.map f) env := by
  have key : ∀ (m k : Nat) (env : DEnv), k + m = xs.length → I k env → loopFor g body E ((xs.drop k).map f) env := by
    intro m
    induction m with
    | zero =>
      intro k env hk hi
      rw [List.drop_of_length_le (by omega)]
      have e : k = xs.length := by omega
      subst e
      exact hend env hi
    | succ m ih =>
      intro k env hk hi
      have hlt : k < xs.length := by omega
      rw [List.drop_eq_getElem_cons hlt, List.map_cons, loopFor]
      exact hs k hlt _ env (fun e he => ih (k + 1) e (by omega) he) hi
  simpa using key xs.length 0 env (by omega) h0
theorem loop_rng {g : MG} {body : MS} {E : DEnds} (lo n : Nat) (I : Nat → DEnv → Prop) (hend : ∀ env, I n env → E.nx env)
    (hs : ∀ (k : Nat) (hk : k < n) (Kk : DEnv → Prop) (env : DEnv), (∀ e, I (k + 1) e → Kk e) → I k env → g (dN (lo + k)) env fun e1 => body { nx := Kk, rt := E.rt, bk := E.nx, ct := Kk } e1) (env : DEnv) (h0 : I 0 env) : loopFor g body E (intsD (lo : Int) n) env := by
  have e : intsD (lo : Int) n = (List.range n).map fun k => dN (lo + k) := by rw [intsD_map]; apply List.map_congr_left; intro a _; simp
  rw [e]
  refine loop_at (fun k => dN (lo + k)) (List.range n) I (by simpa using hend) (fun k hk Kk env hK hi => ?_) env h0
  have hk' : k < n := by simpa using hk
  have := hs k hk' Kk env hK hi
  simpa using this
theorem loop_rng0 {g : MG} {body : MS} {E : DEnds} (n : Nat) (I : Nat → DEnv → Prop) (hend : ∀ env, I n env → E.nx env)
    (hs : ∀ (k : Nat) (hk : k < n) (Kk : DEnv → Prop) (env : DEnv), (∀ e, I (k + 1) e → Kk e) → I k env → g (dN k) env fun e1 => body { nx := Kk, rt := E.rt, bk := E.nx, ct := Kk } e1) (env : DEnv) (h0 : I 0 env) : loopFor g body E (intsD 0 n) env :=
  loop_rng 0 n I hend (fun k hk Kk env hK hi => by have := hs k hk Kk env hK hi; simpa using this) env h0
/-- enumerate -/
theorem enum_map {α : Type} (f : α → D) : ∀ (xs : List α) (n : Nat), enumT (n : Int) (xs.map f) = (List.range xs.length).map fun k => match (xs.map f)[k]? with | some d => .tup [dN (n + k), d] | none => .non
  | [], n => rfl
  | x :: xs, n => by
    rw [List.map_cons, enumT, List.length_cons, List.range_succ_eq_map, List.map_cons, List.map_map]
    have ih := enum_map f xs (n + 1)
    have e : ((n : Int) + 1) = ((n + 1 : Nat) : Int) := by omega
    rw [e, ih]
    congr 1
    apply List.map_congr_left
    intro k hk
    simp only [Function.comp, List.getElem?_cons_succ]
    have e2 : n + 1 + k = n + (k + 1) := by omega
    rw [e2]
theorem enum_at {α : Type} (f : α → D) (d : α) (xs : List α) : enumT 0 (xs.map f) = (List.range xs.length).map fun k => D.tup [dN k, f (xs.getD k d)] := by
  have h := enum_map f xs 0
  rw [show ((0 : Nat) : Int) = 0 from rfl] at h
  rw [h]
  apply List.map_congr_left
  intro k hk
  have hk := List.mem_range.mp hk
  simp [List.getD_eq_getElem?_getD, hk]
theorem zip_at {α β : Type} (f : α → D) (g : β → D) (a : α) (b : β) : ∀ (xs : List α) (ys : List β), xs.length = ys.length → zipT (xs.map f) (ys.map g) = (List.range xs.length).map fun k => D.tup [f (xs.getD k a), g (ys.getD k b)]
  | [], [], _ => rfl
  | x :: xs, y :: ys, h => by
    rw [List.map_cons, List.map_cons, zipT, zip_at f g a b xs ys (by simpa using h), List.length_cons, List.range_succ_eq_map, List.map_cons, List.map_map]
    rfl
@[simp] theorem at3_0 (a b c : D) : atI [a, b, c] 0 = some a := by simp [atI, ixN]
@[simp] theorem at3_1 (a b c : D) : atI [a, b, c] 1 = some b := by simp [atI, ixN]
@[simp] theorem at3_2 (a b c : D) : atI [a, b, c] 2 = some c := by simp [atI, ixN]
theorem find_hit {α : Type} (p : α → Bool) (xs : List α) (k : Nat) (hk : k < xs.length) (hn : (xs.take k).find? p = none) (hp : p xs[k] = true) : xs.find? p = some xs[k] := by
  have e : xs.take k ++ xs[k] :: xs.drop (k + 1) = xs := by rw [← List.drop_eq_getElem_cons hk, List.take_append_drop]
  have e2 : (xs.take k ++ xs[k] :: xs.drop (k + 1)).find? p = some xs[k] := by
    rw [List.find?_append, hn, List.find?_cons, hp]
    rfl
  rw [e] at e2
  exact e2
theorem find_miss {α : Type} (p : α → Bool) (xs : List α) (k : Nat) (hk : k < xs.length) (hn : (xs.take k).find? p = none) (hp : ¬ p xs[k] = true) : (xs.take (k + 1)).find? p = none := by
  rw [List.take_succ_eq_append_getElem hk, List.find?_append, hn]
  simp [hp]
theorem findR_miss (p : Nat → Bool) (N k : Nat) (hk : k < N) (hn : ((List.range N).take k).find? p = none) (hp : ¬ p k = true) : ((List.range N).take (k + 1)).find? p = none := by
  have hk' : k < (List.range N).length := by simpa using hk
  have e : (List.range N)[k] = k := by simp
  exact find_miss p _ k hk' hn (by rw [e]; exact hp)
theorem findR_hit (p : Nat → Bool) (N k : Nat) (hk : k < N) (hn : ((List.range N).take k).find? p = none) (hp : p k = true) : ((List.range N).take (k + 1)).find? p = some k ∧ (List.range N).find? p = some k := by
  have hk' : k < (List.range N).length := by simpa using hk
  have e : (List.range N)[k] = k := by simp
  refine ⟨?_, ?_⟩
  · rw [List.take_succ_eq_append_getElem hk', List.find?_append, hn, e, Option.none_or, List.find?_cons, hp]
  · have := find_hit p _ k hk' hn (by rw [e]; exact hp)
    rw [this, e]
end DL

set_option Elab.async false
set_option linter.all false
set_option autoImplicit false
set_option maxRecDepth 100000
/-! DCP: all_rankings. -/
namespace DL
open PySem (Str)
theorem pms_rk {n : Nat} (h0 : 0 < n) (h : n ≤ 6) : pms n = rk n n := by
  have key : ∀ n ∈ [1, 2, 3, 4, 5, 6], pms n = rk n n := by decide +kernel
  exact key n (by simp; omega)
def F_all_rankings : FD := fun ds P => ∃ n : Nat, ds = [dN n] ∧ 0 < n ∧ n ≤ 6 ∧ P (lN (rk n n))
def mb_all_rankings : MS :=
  (sRet (eFr (fLc (iPm (eVar 0)) (DL.gName 1) tNone (eCall fTuple (aCons (eVar 1) aNil)) [1])))

theorem hF_all_rankings : ∀ ds Q, F_all_rankings ds Q → ds.length = 1 ∧ mb_all_rankings { nx := fun _ => Q .non, rt := Q } (dstart 2 ds) := by
  rintro ds Q ⟨n, rfl, h0, h6, hP⟩
  refine ⟨rfl, ?_⟩
  have hl := rk_len7 (n := n) (k := n) (by omega) (by omega)
  simp [mb_all_rankings, dstart]
  rw [pms_rk h0 h6]
  refine ⟨h0, by omega, by omega, ?_⟩
  have e : (rk n n).map (fun r => D.tup (r.map fun k : Nat => D.int (k : Int))) = (rk n n).map tN := rfl
  rw [e]
  refine lc_filterMap tN tN (fun _ => true) (fun r hr Kk Kn hL => ?_) _ ?_
  · simpa using hL
  · rw [List.filter_eq_self.mpr (fun _ _ => rfl), List.nil_append]; exact hP
end DL

set_option Elab.async false
set_option linter.all false
set_option autoImplicit false
set_option maxRecDepth 100000
set_option maxHeartbeats 1000000
/-! DPk: permutations(range(n)), its tuples known to have no dict. -/
namespace RPm
open PySem PySem.Spec PyProof.Rows L2
abbrev tobjK (us : List Value) : Obj := { cls := .type "tuple", data := .seq us.toArray }
def ItPmK (n : Nat) : It := ⟨fun i _ => ∃ p, pst n i = some p, fun i H v H' => ∃ T p o, v = .ref T ∧ H T = none ∧ o.cls = .type "tuple" ∧ o.dict = none ∧ H' = upd H T (.frz o (.tup (p.1.map fun k : Nat => V.int (k : Int)))) ∧ pst n i = some p, fun i _ => pst n i = none⟩
theorem turn_pmK {P : Program} {w : World} {K : PySem.W.Frag} {tg : Expr} {n : Nat} {it T : Addr} (hn : 0 < n) (hn2 : n ≤ 1000) (hne : T ≠ it) : Turn P w K tg (ItPmK n) [it, T] it (TnPm n it T) where
  mem := by simp
  obj := fun i h st c hc => by
    obtain ⟨acc, last, ⟨o, e, c1, k, d⟩, hi, st⟩ := st
    have e' : c = it ∨ c = T := by simpa using hc
    rcases e' with q | q
    · rw [q]
      rcases st with ⟨e1, z⟩ | ⟨k, p, e1, e2, z⟩
      · exact ⟨_, z, fun v q => nomatch q⟩
      · exact ⟨_, z, fun v q => nomatch q⟩
    · rw [q]; exact ⟨o, e, fun v q => by rw [d] at q; cases q⟩
  keep := fun i h h' st k => tnPm_at st (fun o e => k it (by simp) o e) fun o e => k T (by simp) o e
  item := by
    intro X hP hw hK hc i pins s σ H E I hf st hg
    subst hP hw hK
    obtain ⟨q, hq⟩ := hg
    obtain ⟨acc, last, hT, hi, st⟩ := st
    have hq' := pst_ok hn i q hq
    have key : ∃ f xs cs, IsPm s.heap it T last f n (xs ++ cs) ∧ xs.length = n ∧ cs.length = n ∧ ((f = 0 ∧ q.1 = xs ∧ q.2 = cs) ∨ (f = 1 ∧ pnx n n xs cs = some (q.1, q.2) ∧ q.1.length = n ∧ q.2.length = n)) := by
      rcases st with ⟨e1, z⟩ | ⟨k, p, e1, e2, z⟩
      · subst e1
        injection hq with hq
        refine ⟨0, _, _, z, by simp, by simp, .inl ⟨rfl, by rw [← hq], by rw [← hq]⟩⟩
      · subst e1
        rw [pst, e2] at hq
        have hp := pst_ok hn k p e2
        exact ⟨1, _, _, z, hp.l1, hp.l2, .inr ⟨rfl, hq, hq'.l1, hq'.l2⟩⟩
    obtain ⟨f, xs, cs, z, lx, lc, hst⟩ := key
    have hlt : it < s.heap.objs.size := Heap.lt_size z
    have hTlt : T < s.heap.objs.size := by obtain ⟨o, e, _⟩ := hT; exact Heap.lt_size e
    refine item_pm z hT hi.1 lx lc hn2 hn hst fun h' z' hnew hk => ?_
    refine ⟨_, rfl, go_of (s := { s with heap := h' }) (n := "itertools.permutations") z' rfl rfl (by decide) ?_⟩
    have new : ObjOk X.prog X.w (upd H s.heap.objs.size (.frz (tobjK (pickV acc q.1)) (.tup (q.1.map fun k : Nat => V.int (k : Int))))) h' s.heap.objs.size (.frz (tobjK (pickV acc q.1)) (.tup (q.1.map fun k : Nat => V.int (k : Int)))) :=
      ⟨hnew, by rw [List.length_map, hq'.l1, sizeLine_eq]; omega, _, pick_vals hi q.1 hq'.lt, ⟨_, hnew, rfl, _, rfl⟩⟩
    have I1 : Inv X pins σ (upd H s.heap.objs.size (.frz (tobjK (pickV acc q.1)) (.tup (q.1.map fun k : Nat => V.int (k : Int))))) { s with heap := h' } :=
      I.turnedNew (t' := s.toks) (ch := [it, T]) (fun c o hb e => hk c o (fun q' => hb (by simp [q'])) e) hf (Nat.le_refl _) new
    refine ⟨.ref s.heap.objs.size, _, I1, rfl, ⟨_, q, _, rfl, I.hok.fresh (Nat.le_refl _), rfl, rfl, rfl, hq⟩, ⟨acc, _, ?_, hi, .inr ⟨i, q, rfl, hq, z'⟩⟩, fun c hcm => ?_⟩
    · obtain ⟨o, e, r⟩ := hT
      exact ⟨o, hk T o hne e, r⟩
    · have hlt : c < s.heap.objs.size := by
        have e' : c = it ∨ c = T := by simpa using hcm
        rcases e' with q | q
        · rw [q]; exact hlt
        · rw [q]; exact hTlt
      rw [upd_ne (Nat.ne_of_lt hlt)]
      exact (hf c hcm).1
  done := by
    intro X hP hw hK hc i pins s σ H E I hf st hg
    subst hP hw hK
    obtain ⟨acc, last, hT, hi, st⟩ := st
    have hg : pst n i = none := hg
    rcases st with ⟨e1, z⟩ | ⟨k, p, e1, e2, z⟩
    · subst e1; cases hg
    · subst e1
      have hp := pst_ok hn k p e2
      rw [pst, e2] at hg
      exact end_pm (I.ok.hd hc) z hT hi.1 hp.l1 hp.l2 hn2 hn hg fun h' hk => ⟨rfl, I.turnedL (t' := s.toks) (ch := [it, T]) (fun c o hb q => hk c o (fun q' => hb (by simp [q'])) q) hf⟩
  self := fun A i s Q E st h => by
    obtain ⟨acc, last, hT, hi, st⟩ := st
    rcases st with ⟨e1, z⟩ | ⟨k, p, e1, e2, z⟩
    · exact self_pm z h
    · exact self_pm z h
section
variable {X : Cx} {tg e : Expr} {te : L2.St → Hp → (Int → Int → Hp → Prop) → Prop}
def iPmKW (te : L2.St → Hp → (Int → Int → Hp → Prop) → Prop) : TI := fun σ H R => te σ H fun a b H1 => a = 0 ∧ 0 < b ∧ b ≤ 1000 ∧ R (ItPmK b.toNat) H1
theorem pi_pmK {p pos : Pos} {x : Str} (hc : X.calm = true) (hg : Gl X x) (hm : X.mg x = some (.type "itertools.permutations")) (hd : (x == ("__debug__" : Str)) = false) (he : PRg X e te) (na : starEach [e] X.env = (false, eval e X.env) :: starEach [] X.env := by rfl) :
    PI X tg (.Call (.Name x p) [e] [] pos) (iPmKW te) := by
  refine ⟨fun pins s σ H R I h => ?_⟩
  refine Call_ (ld_glob I hg hm (PyProof.Rows.callWith_type1 (args_cons (thn (he pins s σ H _ I h) fun x s1 ⟨r, a, b, t, u, v, H1, ex, hr, I1, q⟩ => args_nil ?_) na) na) hd)
  subst ex
  obtain ⟨rfl, b1, b2, q⟩ := q
  refine call_pm (n := b.toNat) (I1.ok.hd hc) hr (small_one (by omega) (by omega) (by omega) (by omega)) (by rw [rangeSize_nat]; simp) (by omega) fun h1 h2 tk acc hk1 hk2 hi hT hz => ?_
  have hi' : ItemsOf (fun i v => ∃ t, v = .int (i : Int) t) acc b.toNat := ⟨hi.1, fun i v hv => by
    obtain ⟨t, ht⟩ := hi.2 i v hv
    refine ⟨t, ?_⟩
    rw [ht]
    simp⟩
  refine self_pm (s := { s1 with heap := h2, toks := tk }) hz ?_
  have I2 : Inv X pins σ H1 { s1 with heap := h1, toks := tk } := I1.kept hk1
  refine ⟨h1.objs.size + 1, [h1.objs.size + 1, h1.objs.size], _, _, H1, rfl, I2.kept (t' := tk) hk2, turn_pmK (n := b.toNat) (by omega) (by omega) (Nat.ne_of_lt (Nat.lt_succ_self _)), ⟨acc, _, hT, hi', .inl ⟨rfl, hz⟩⟩, fun c hcm => ?_, q⟩
  have e' : c = h1.objs.size + 1 ∨ c = h1.objs.size := by simpa using hcm
  have hle : h1.objs.size ≤ c := by rcases e' with q | q <;> rw [q] <;> first | exact Nat.le_refl _ | exact Nat.le_succ _
  exact (I2.fpOk hle (I2.hok.fresh hle))
end
end RPm
namespace DL
open PySem PySem.Spec PyProof.Rows L2
@[simp] def iPmK (a : ME) : MI := fun env P => a env fun x e1 => match x with
  | .int n => 0 < n ∧ n ≤ 6 ∧ P ((pms n.toNat).map fun r => .rnk (r.map fun k : Nat => (k : Int))) e1
  | _ => False
section
variable {X : Cx} {Tb : Addr → Prop} {tg a : Expr} {m : ME} {pos p p2 p3 : Pos}
theorem iv_pmK (hc : X.calm = true) (hg : Gl X "permutations") (hm : X.mg "permutations" = some (.type "itertools.permutations")) (hg2 : Gl X "range") (hm2 : X.mg "range" = none) (h : EV X Tb a m) (na : starEach [a] X.env = (false, eval a X.env) :: starEach [] X.env := by rfl)
    (nb : starEach [.Call (.Name "range" p2) [a] [] p3] X.env = (false, eval (.Call (.Name "range" p2) [a] [] p3) X.env) :: starEach [] X.env := by rfl) : IV X Tb tg (.Call (.Name "permutations" p) [.Call (.Name "range" p2) [a] [] p3] [] pos) (iPmK m) := by
  obtain ⟨t, pe, h⟩ := h.ex
  refine ⟨_, RPm.pi_pmK hc hg hm (by decide) (prg_1 hg2 hm2 pe na) nb, fun W Oc H0 O H σ env R P F hm hq => ?_⟩
  refine h W Oc H0 O H σ env _ _ F hm fun H1 v d e1 F1 s1 r1 q1 => ?_
  cases d with
  | int n =>
    obtain ⟨h0, h6, q1⟩ := q1
    refine ⟨n, r1, rfl, h0, by omega, hq H1 _ _ e1 F1 s1 (fun O2 H2 mv hO i => ⟨fun d hd => ?_, fun hle => ?_⟩) q1⟩
    · rw [List.getElem?_map, pms_get (by omega) (by omega)] at hd
      obtain ⟨r, hr, rfl⟩ := Option.map_eq_some_iff.mp hd
      obtain ⟨q, hq, rfl⟩ := Option.map_eq_some_iff.mp hr
      refine ⟨⟨q, hq⟩, fun x H3 ⟨T, q', o, ex, hT, oc, od, eH, hq'⟩ => ?_⟩
      subst ex eH
      rw [hq] at hq'
      injection hq' with hq'
      subst hq'
      exact ⟨same_upd hT, ⟨T, o, rfl, by rw [List.map_map]; exact upd_same, oc, od, hO _ hT⟩⟩
    · have e := pms_get (n := n.toNat) (by omega) (by omega) i
      rw [List.length_map] at hle
      rw [List.getElem?_eq_none hle] at e
      cases h : RPm.pst n.toNat i with
      | none => exact h
      | some p => rw [h] at e; cases e
  | _ => exact False.elim q1
end
end DL

set_option Elab.async false
set_option linter.all false
set_option autoImplicit false
set_option maxRecDepth 100000
set_option maxHeartbeats 1000000
/-! DLn: t < u of nested tuples of ints. -/
namespace DL
open PySem PySem.Spec PyProof.Rows L2
def lexD (f : D → D → Bool) : List D → List D → Bool
  | [], [] => false
  | [], _ :: _ => true
  | _ :: _, [] => false
  | x :: xs, y :: ys => if peq x y = true then lexD f xs ys else f x y
def ltD : Nat → D → D → Bool
  | _, .int i, .int j => decide (i < j)
  | n + 1, .tup xs, .tup ys => lexD (ltD n) xs ys
  | _, _, _ => false
def allP (f : D → D → Bool) : List D → List D → Bool
  | x :: xs, y :: ys => f x y && allP f xs ys
  | _, _ => true
/-- what stands at the same place is of one kind -/
def cmpO : Nat → D → D → Bool
  | _, .int _, .int _ => true
  | n + 1, .tup xs, .tup ys => allP (cmpO n) xs ys
  | _, _, _ => false
theorem lexAtD (f : D → D → Bool) : ∀ (xs ys : List D) (off : Nat) (e r : Nat → Bool), (∀ j, e (off + j) = peq (xs.getD j .non) (ys.getD j .non)) → (∀ j, r (off + j) = f (xs.getD j .non) (ys.getD j .non)) →
    Ob.lexAt e r (decide (xs.length < ys.length)) off (min xs.length ys.length) = lexD f xs ys
  | [], [], _, _, _, _, _ => rfl
  | [], _ :: _, _, _, _, _, _ => by simp [Ob.lexAt, lexD]
  | _ :: _, [], _, _, _, _, _ => by simp [Ob.lexAt, lexD]
  | x :: ns, y :: ms, off, e, r, he, hr => by
    have e0 := he 0
    have r0 := hr 0
    rw [Nat.add_zero] at e0 r0
    have ih := lexAtD f ns ms (off + 1) e r (fun j => by have := he (j + 1); rw [show off + 1 + j = off + (j + 1) by omega, this]; rfl) (fun j => by have := hr (j + 1); rw [show off + 1 + j = off + (j + 1) by omega, this]; rfl)
    have em : min (x :: ns).length (y :: ms).length = min ns.length ms.length + 1 := by simp only [List.length_cons]; omega
    rw [em, Ob.lexAt_succ, e0, r0]
    have ez : decide ((x :: ns).length < (y :: ms).length) = decide (ns.length < ms.length) := by simp
    rw [ez, ih]
    rfl
theorem allP_at {f : D → D → Bool} : ∀ {xs ys : List D}, allP f xs ys = true → ∀ {j : Nat} {x y : D}, xs[j]? = some x → ys[j]? = some y → f x y = true
  | x :: xs, y :: ys, h, 0, _, _, h1, h2 => by
    cases h1; cases h2
    exact (Bool.and_eq_true_iff.mp h).1
  | x :: xs, y :: ys, h, j + 1, _, _, h1, h2 => allP_at (Bool.and_eq_true_iff.mp h).2 h1 h2
  | [], _, _, _, _, _, h1, _ => by cases h1
  | _ :: _, [], _, _, _, _, _, h2 => by cases h2
theorem plains_at {n : Nat} : ∀ {xs : List D}, plains n xs = true → ∀ {j : Nat} {x : D}, xs[j]? = some x → plain n x = true
  | x :: xs, h, 0, _, h1 => by cases h1; exact (plains_cons.mp h).1
  | x :: xs, h, j + 1, _, h1 => plains_at (plains_cons.mp h).2 h1
  | [], _, _, _, h1 => by cases h1
section
variable {X : Cx} {pins : List (Addr × Obj)} {σ : L2.St} {H : Hp} {s : Shared} {Pl O : Addr → Prop}
theorem reps_at : ∀ {ds : List D} {vs : List V}, Reps X.K Pl O H ds vs → ∀ {its : List Value}, Vals vs its → ∀ {j : Nat} {u : Value}, its[j]? = some u → ∃ d v, ds[j]? = some d ∧ Rep X.K Pl O H d v ∧ RelV v u
  | [], _, h, _, hv, j, u, e => by
    cases (show _ = _ from h)
    cases hv
    cases e
  | d :: ds, _, h, _, hv, j, u, e => by
    obtain ⟨v, us, rfl, r1, r2⟩ := h
    cases hv with
    | cons a b =>
      cases j with
      | zero => cases e; exact ⟨d, v, rfl, r1, a⟩
      | succ j => exact reps_at r2 b e
theorem eqAt_rep (I : Inv X pins σ H s) {A : Around} {x y : D} {v w : V} {u u' : Value} (hu : A.units + 64 < cLine) (px : plain DP x = true) (py : plain DP y = true) (rx : Rep X.K Pl O H x v) (ry : Rep X.K Pl O H y w) (ru : RelV v u) (rw1 : RelV w u') : SeqAt.EqAt A s u u' (peq x y) := by
  obtain ⟨as, r1⟩ := Dp.reads I _ _ _ (dp_of _ _ _ px rx) ru
  obtain ⟨bs, r2⟩ := Dp.reads I _ _ _ (dp_of _ _ _ py ry) rw1
  rw [peq_py _ _ _ px py]
  exact SeqAt.eqAt_reads _ _ A s _ _ as bs r1 r2 (SeqAt.canLay_of_shaped (shaped_of px)) (SeqAt.canLay_of_shaped (shaped_of py)) (SeqAt.room_of_shaped (shaped_of px) hu)
theorem rc_lt (I : Inv X pins σ H s) : ∀ (n : Nat), n ≤ 50 → ∀ (A : Around) (x y : D) (v w : V) (u u' : Value), A.units + n + 64 < cLine → plain n x = true → plain n y = true → cmpO n x y = true → Rep X.K Pl O H x v → Rep X.K Pl O H y w → RelV v u → RelV w u' → Ob.RcOp .Lt A s u u' (ltD n x y) := by
  intro n
  induction n with
  | zero =>
    intro _ A x y v w u u' hu px py hc rx ry r1 r2
    cases x <;> cases y <;> first | (simp [cmpO] at hc; done) | skip
    obtain rfl : v = _ := rx
    obtain rfl : w = _ := ry
    obtain ⟨t, rfl⟩ := r1
    obtain ⟨t', rfl⟩ := r2
    exact Ob.RcOp.lt_int _ _ _ _
  | succ n ih =>
    intro hn A x y v w u u' hu px py hc rx ry r1 r2
    cases x <;> cases y <;> first | (simp [cmpO] at hc; done) | skip
    · obtain rfl : v = _ := rx
      obtain rfl : w = _ := ry
      obtain ⟨t, rfl⟩ := r1
      obtain ⟨t', rfl⟩ := r2
      exact Ob.RcOp.lt_int _ _ _ _
    · rename_i xs ys
      obtain ⟨a, vs, rfl, qa, na, ra⟩ := rx
      obtain ⟨b, us, rfl, qb, nb, rb⟩ := ry
      cases r1
      cases r2
      obtain ⟨its, v1, p1, _⟩ := I.tuple (sqRd qa)
      obtain ⟨its2, v2, p2, _⟩ := I.tuple (sqRd qb)
      have l1 : its.length = xs.length := by rw [← v1.length, ra.length]
      have l2 : its2.length = ys.length := by rw [← v2.length, rb.length]
      have hin : A.in1.units = A.units + 1 := rfl
      have at1 : ∀ j (h : j < its.toArray.size), ∃ d v, xs[j]? = some d ∧ Rep X.K Pl O H d v ∧ RelV v its.toArray[j] := fun j h => reps_at ra v1 (by simp at h ⊢)
      have at2 : ∀ j (h : j < its2.toArray.size), ∃ d v, ys[j]? = some d ∧ Rep X.K Pl O H d v ∧ RelV v its2.toArray[j] := fun j h => reps_at rb v2 (by simp at h ⊢)
      have R := Ob.RcOp.tuples_lt (A := A) (s := s) (e := fun j => peq (xs.getD j .non) (ys.getD j .non)) (r := fun j => ltD n (xs.getD j .non) (ys.getD j .non)) p1 p2 (by omega) (fun j h1 h2 => by
        obtain ⟨d, v, e1, rd, rv⟩ := at1 j h1
        obtain ⟨d', v', e2, rd', rv'⟩ := at2 j h2
        rw [List.getD_eq_getElem?_getD, List.getD_eq_getElem?_getD, e1, e2]
        exact eqAt_rep I (by omega) (plain_mono n DP (by show n ≤ 60; omega) _ (plains_at px e1)) (plain_mono n DP (by show n ≤ 60; omega) _ (plains_at py e2)) rd rd' rv rv') (fun j h1 h2 _ => by
        obtain ⟨d, v, e1, rd, rv⟩ := at1 j h1
        obtain ⟨d', v', e2, rd', rv'⟩ := at2 j h2
        rw [List.getD_eq_getElem?_getD, List.getD_eq_getElem?_getD, e1, e2]
        exact ih (by omega) A.in1 d d' v v' _ _ (by omega) (plains_at px e1) (plains_at py e2) (allP_at hc e1 e2) rd rd' rv rv')
      have e1 : its.toArray.size = xs.length := by rw [List.size_toArray]; exact l1
      have e2 : its2.toArray.size = ys.length := by rw [List.size_toArray]; exact l2
      rw [e1, e2, lexAtD (ltD n) xs ys 0 _ _ (fun j => by rw [Nat.zero_add]) (fun j => by rw [Nat.zero_add])] at R
      exact R
end
/-- t < u, nested tuples of ints -/
@[simp] def oLtN : O2 := fun x y P => plain 8 x = true ∧ plain 8 y = true ∧ cmpO 8 x y = true ∧ P (.bl (ltD 8 x y))
section
variable {X : Cx}
def rLtN (K : PySem.W.Frag) : R2 := fun x y H Q => ∃ (Pl O : Addr → Prop) (d e : D), plain 8 d = true ∧ plain 8 e = true ∧ cmpO 8 d e = true ∧ Rep K Pl O H d x ∧ Rep K Pl O H e y ∧ Q (.bl (ltD 8 d e)) H
theorem op_ltN (hu : X.A.units + 80 < cLine) : OpR X (compareOp .Lt) (rLtN X.K) := by
  intro pins s σ H x y v u Q I rx ry ⟨Pl, O, d, e, h1, h2, h3, h4, h5, q⟩
  exact rc_lt I 8 (by decide) X.A d e x y v u (by omega) h1 h2 h3 h4 h5 rx ry X.prog X.w X.xe (EP X pins σ Q) ⟨.bl _, H, I, rfl, q⟩
theorem ov_ltN {k : Nat} (hr : Room k X.A) : OV X (compareOp .Lt) oLtN := by
  refine ⟨_, op_ltN (by have := hr.un; omega), fun Pl O H x y v u Q P hO rx ry ⟨h1, h2, h3, h⟩ hq => ?_⟩
  exact ⟨Pl, O, x, y, h1, h2, h3, rx, ry, hq H _ (.bl _) (Same.refl _) rfl h⟩
end
end DL

set_option Elab.async false
set_option linter.all false
set_option autoImplicit false
set_option maxRecDepth 100000
set_option maxHeartbeats 1000000
/-! DSn: sorted(list of nested tuples). -/
namespace DL
open PySem PySem.Spec PyProof.Rows L2
abbrev leD : D → D → Bool := PySem.W.dataLe false toPy
def fSortedN : FD := fun ds P => ∃ xs : List D, ds = [.lst xs] ∧ plains 8 xs = true ∧ PySem.W.AllAlike (xs.map toPy) ∧ PySem.W.Sortable (xs.map toPy) ∧ P (.lst (xs.mergeSort leD))
section
variable {X : Cx} {pins : List (Addr × Obj)} {σ : L2.St} {H : Hp} {s : Shared} {Pl O : Addr → Prop}
def RDV (K : PySem.W.Frag) (Pl O : Addr → Prop) (H : Hp) (u : Value) (d : D) : Prop := ∃ v, RelV v u ∧ Rep K Pl O H d v
theorem each_of {K : PySem.W.Frag} : ∀ {xs : List D} {vs : List V} {us : List Value}, Reps K Pl O H xs vs → Vals vs us → PySem.W.EachIs (RDV K Pl O H) us xs
  | [], _, _, h, hv => by
    cases (show _ = _ from h)
    cases hv
    exact .nil
  | d :: xs, _, _, h, hv => by
    obtain ⟨v, vs, rfl, h1, h2⟩ := h
    cases hv with
    | cons a b => exact .cons ⟨v, a, h1⟩ (each_of h2 b)
theorem each_back {K : PySem.W.Frag} : ∀ {xs : List D} {us : List Value}, PySem.W.EachIs (RDV K Pl O H) us xs → ∃ vs, Vals vs us ∧ Reps K Pl O H xs vs
  | _, _, .nil => ⟨[], .nil, rfl⟩
  | _, _, .cons ⟨v, a, h⟩ t => by
    obtain ⟨vs, h1, h2⟩ := each_back t
    exact ⟨v :: vs, .cons a h1, v, vs, rfl, h, h2⟩
def rSortedN (K : PySem.W.Frag) : List V → Hp → VK → Prop := fun vs H Q => ∃ (a : Addr) (Pl O : Addr → Prop) (vs0 : List V) (xs : List D), vs = [V.ref a] ∧ SqL K H a vs0 ∧ Reps K Pl O H xs vs0 ∧ plains 8 xs = true ∧ PySem.W.AllAlike (xs.map toPy) ∧ PySem.W.Sortable (xs.map toPy) ∧
  ∀ (p : Addr) (ws : List V), H p = none → Reps K Pl O H (xs.mergeSort leD) ws → Q (.ref p) (upd H p (.lst ws))
theorem depth_plain : ∀ (n : Nat) (x : D), n ≤ 60 → plain n x = true → (toPy x).depth ≤ 64 := fun n x hn h => PySem.SeqAt.depth_of_shaped (shaped_of (plain_mono n DP hn _ h))
theorem cr_sortedN {k : Nat} (hr : Room k X.A) : CallR X (.builtin "sorted") (rSortedN X.K) := by
  intro pins s σ H vs us Q I r h
  obtain ⟨a, Pl, O, vs0, xs, rfl, hs, hx, hp, hal, hk, q⟩ := h
  obtain ⟨its, rv, hl, hz⟩ := I.list hs
  rw [Vals.ref1 r]
  have he := each_of hx rv
  have hun := hr.un
  refine PySem.W.sorted_data (R := RDV X.K Pl O H) (enc := toPy) (bs := xs) hl.isList he ?_ hal hk (by rw [← he.length, ← rv.length]; exact hz) (fun b hb => ?_) fun out hlen hout => ?_
  · refine (PySem.W.each_mem he).mono fun u d ⟨⟨v, a1, a2⟩, hd⟩ => ?_
    obtain ⟨j, hj, rfl⟩ := List.getElem_of_mem hd
    exact Dp.reads I _ _ _ (dp_of 8 _ _ (plains_at hp (List.getElem?_eq_getElem hj)) a2) a1
  · obtain ⟨j, hj, rfl⟩ := List.getElem_of_mem hb
    have := depth_plain 8 _ (by decide) (plains_at hp (List.getElem?_eq_getElem hj))
    omega
  · obtain ⟨ws, w1, w2⟩ := each_back hout
    obtain ⟨e, he2⟩ := sortedAll_at s.heap its out.toArray
    have hle : s.heap.objs.size ≤ s.heap.objs.size + 1 := Nat.le_succ _
    have hwl : ws.length ≤ sizeLine := by
      rw [w1.length, hlen, ← he.length, ← rv.length]; exact hz
    exact ⟨.ref _, upd H (s.heap.objs.size + 1) (.lst ws), I.laid (t' := s.toks) (fun b u z => sortedAll_old z) hle ⟨hwl, out, e, w1, he2⟩, rfl, q _ _ (I.hok.fresh hle) w2⟩
theorem cv_sortedN {k : Nat} (hr : Room k X.A) : CV X (.builtin "sorted") fSortedN := by
  refine ⟨_, cr_sortedN hr, fun Pl O H ds vs Q P hO r h hq => ?_⟩
  obtain ⟨xs, rfl, hp, hal, hk, h⟩ := h
  obtain ⟨v, us, rfl, ⟨a, vs, rfl, qa, na, ra⟩, e⟩ := r
  cases (show us = [] from e)
  exact ⟨a, Pl, O, vs, xs, rfl, SqL.of qa, ra, hp, hal, hk, fun p ws hpn hw => hq _ _ _ (same_upd hpn) (rep_new_lst hO hw hpn) h⟩
end
end DL

set_option Elab.async false
set_option linter.all false
set_option autoImplicit false
set_option maxRecDepth 100000
set_option maxHeartbeats 1000000
/-! DNm: min(list of nested tuples). -/
namespace DL
open PySem PySem.Spec PyProof.Rows L2 PySem.W
abbrev leP : PyData → PyData → Bool := dataLe false id
theorem leP_total : TotalLe leP := sortLe_total _ _ _
theorem minD_spec : ∀ (xs : List PyData) (x : PyData), minD x xs ∈ x :: xs ∧ ∀ z ∈ x :: xs, leP (minD x xs) z = true
  | [], x => ⟨by simp [minD], fun z hz => by rw [List.mem_singleton.mp hz]; exact leP_total.refl x⟩
  | y :: xs, x => by
    obtain ⟨h1, h2⟩ := minD_spec xs (if dataLt y x then y else x)
    have e : minD x (y :: xs) = minD (if dataLt y x then y else x) xs := rfl
    rw [e]
    have hy : leP (if dataLt y x then y else x) y = true ∧ leP (if dataLt y x then y else x) x = true := by
      cases h : dataLt y x with
      | true =>
        rw [if_pos rfl]
        refine ⟨leP_total.refl y, ?_⟩
        rcases leP_total.total y x with z | z
        · exact z
        · have : (!dataLt y x) = true := z
          rw [h] at this; cases this
      | false =>
        rw [if_neg (by simp)]
        refine ⟨?_, leP_total.refl x⟩
        show (!dataLt y x) = true
        rw [h]; rfl
    refine ⟨?_, fun z hz => ?_⟩
    · rcases List.mem_cons.mp h1 with h | h
      · rw [h]; split <;> simp
      · exact List.mem_cons_of_mem _ (List.mem_cons_of_mem _ h)
    · have h0 := h2 _ (List.mem_cons_self ..)
      rcases List.mem_cons.mp hz with rfl | hz
      · exact leP_total.trans _ _ _ h0 hy.2
      · rcases List.mem_cons.mp hz with rfl | hz
        · exact leP_total.trans _ _ _ h0 hy.1
        · exact h2 z (List.mem_cons_of_mem _ hz)
/-- min(list of nested tuples): one of the least -/
def fMinN : FD := fun ds P => ∃ xs : List D, ds = [.lst xs] ∧ xs ≠ [] ∧ plains 8 xs = true ∧ PySem.W.AllAlike (xs.map toPy) ∧ (∀ x ∈ xs, toPy x ≠ .none) ∧ ∀ y ∈ xs, (∀ z ∈ xs, leD y z = true) → P y
section
variable {X : Cx} {Tb : Addr → Prop}
theorem cv_minN {k : Nat} (hc : X.calm = true) (hr : Room k X.A) : CV X (.builtin "min") fMinN := by
  refine ⟨_, call_min1 hc hr, fun Pl O H ds vs Q P hO r h hq => ?_⟩
  obtain ⟨xs, rfl, hne, hp, hal, hno, h⟩ := h
  obtain ⟨v, us, rfl, ⟨a, ws, rfl, qa, na, ra⟩, rfl⟩ := r
  cases xs with
  | nil => exact absurd rfl hne
  | cons x xs =>
    have dpa := dpAll_of (fun x v => dp_of 8 x v) _ _ hp ra
    rw [List.map_cons] at dpa hal
    have hsh : SeqAt.shaped (.list (toPy x :: xs.map toPy)) = true := by
      have := shaped_of (x := .lst (x :: xs)) (by
        show plain (59 + 1) _ = true
        simp only [plain]
        exact plains_all 59 _ fun d hd => by
          obtain ⟨j, hj, rfl⟩ := List.getElem_of_mem hd
          exact plain_mono 8 59 (by decide) _ (plains_at hp (List.getElem?_eq_getElem hj)))
      rw [show toPy (.lst (x :: xs)) = .list ((x :: xs).map toPy) by simp only [toPy]] at this
      simpa using this
    refine ⟨a, ws, toPy x, xs.map toPy, rfl, .inl (SqL.of qa), dpa, ⟨fun p hp q hq => hal p hp q hq, fun p hp => ?_⟩, depthAll_le hsh, fun i y hy hu => ?_⟩
    · rw [← List.map_cons] at hp
      obtain ⟨d, hd, rfl⟩ := List.mem_map.mp hp
      exact hno d hd
    · have hi : i < (x :: xs).length := by rw [← ra.length]; exact (List.getElem?_eq_some_iff.mp hy).1
      obtain ⟨y', hy', ry⟩ := ra.get (List.getElem?_eq_getElem hi)
      rw [hy] at hy'; cases hy'
      have hd := dp_of 8 _ _ (plains_at hp (List.getElem?_eq_getElem hi)) ry
      have e := hu _ hd
      obtain ⟨_, h2⟩ := minD_spec (xs.map toPy) (toPy x)
      rw [← e] at h2
      refine hq H y _ (Same.refl _) ry (h _ (List.getElem_mem hi) fun z hz => ?_)
      exact h2 (toPy z) (by rw [← List.map_cons]; exact List.mem_map.mpr ⟨z, hz, rfl⟩)
end
end DL

set_option Elab.async false
set_option linter.all false
set_option autoImplicit false
set_option maxRecDepth 100000
/-! DLK2: two fors in a comprehension. -/
namespace DL
theorem lc2_flatK {α β : Type} {g : MG} {t : MT} {mi1 : MI} {g1 : MG} {t1 : MT} {e : ME} {b : DEnv} {vs1 : List Nat} {P : List D → Prop} (f : α → D) (q : α → List β) (v : β → D) (xs : List α)
    (h1 : ∀ x, x ∈ xs → ∀ (pre : List α) (Kk : List D → Prop), (∃ suf, xs = pre ++ x :: suf) → Kk ((pre.flatMap q).map v ++ (q x).map v) → g (f x) b fun e1 => t e1 fun k e2 => if k = true then mi1 e2 fun items e3 => ((pre.flatMap q).map v).length + items.length ≤ LN ∧ lcLoop g1 t1 e (hide (wipe e3 vs1)) Kk items ((pre.flatMap q).map v) else Kk ((pre.flatMap q).map v))
    (h : P ((xs.flatMap q).map v)) : lc2Loop g t mi1 g1 t1 e b vs1 P (xs.map f) [] := by
  refine lc2_ind (fun rest acc => ∃ pre suf : List α, rest = suf.map f ∧ xs = pre ++ suf ∧ acc = (pre.flatMap q).map v) ?_ ?_ _ _ ⟨[], xs, rfl, rfl, rfl⟩
  · rintro acc ⟨pre, suf, e1, e2, rfl⟩
    have : suf = [] := List.eq_nil_of_map_eq_nil e1.symm
    subst this
    rw [List.append_nil] at e2
    rw [← e2]; exact h
  · rintro d ds Kk acc hK ⟨pre, suf, e1, e2, rfl⟩
    cases suf with
    | nil => cases e1
    | cons x suf =>
      cases e1
      refine h1 x (by rw [e2]; simp) pre Kk ⟨suf, e2⟩ (hK _ ⟨pre ++ [x], suf, rfl, by rw [e2]; simp, by simp⟩)
theorem all_mapK {α : Type} {g : MG} {t : MT} {e : ME} {b : DEnv} {P : Bool → Prop} (f : α → D) (p : α → Bool) : ∀ {xs : List α}
    (h1 : ∀ x, x ∈ xs → ∀ L : Prop, (if p x = true then L else P false) → genTurn g t e b (yAll P) (f x) L) (h : P (xs.all p)), allLoop g t e b P (xs.map f)
  | [], _, h => h
  | x :: xs, h1, h => by
    rw [List.map_cons, allLoop]
    refine h1 x (List.mem_cons_self ..) _ ?_
    rw [List.all_cons] at h
    cases hp : p x with
    | true =>
      rw [hp, Bool.true_and] at h
      rw [if_pos rfl]
      exact all_mapK f p (fun y hy => h1 y (List.mem_cons_of_mem _ hy)) h
    | false =>
      rw [hp, Bool.false_and] at h
      rw [if_neg (by simp)]; exact h
theorem any_mapK {α : Type} {g : MG} {t : MT} {e : ME} {b : DEnv} {P : Bool → Prop} (f : α → D) (p : α → Bool) : ∀ {xs : List α}
    (h1 : ∀ x, x ∈ xs → ∀ L : Prop, (if p x = true then P true else L) → genTurn g t e b (yAny P) (f x) L) (h : P (xs.any p)), anyLoop g t e b P (xs.map f)
  | [], _, h => h
  | x :: xs, h1, h => by
    rw [List.map_cons, anyLoop]
    refine h1 x (List.mem_cons_self ..) _ ?_
    rw [List.any_cons] at h
    cases hp : p x with
    | true =>
      rw [hp, Bool.true_or] at h
      rw [if_pos rfl]; exact h
    | false =>
      rw [hp, Bool.false_or] at h
      rw [if_neg (by simp)]
      exact any_mapK f p (fun y hy => h1 y (List.mem_cons_of_mem _ hy)) h
end DL

set_option Elab.async false
set_option linter.all false
set_option autoImplicit false
set_option maxRecDepth 100000
/-! DTab: counting tables, the runs of a sorted list, and that they agree. -/
namespace DL
open PySem (Str)
/-! ### leD is a total order up to == -/
theorem leD_total : PySem.W.TotalLe leD := PySem.W.sortLe_total _ _ _
theorem leD_pyeq {x y : D} (hal : PySem.W.alike (toPy x) (toPy y) = true) (h1 : leD x y = true) (h2 : leD y x = true) : PySem.PyData.eqv (toPy x) (toPy y) = true := by
  have a1 : PySem.W.dataLt (toPy y) (toPy x) = false := by
    have : (!PySem.W.dataLt (toPy y) (toPy x)) = true := h1
    simpa using this
  have a2 : PySem.W.dataLt (toPy x) (toPy y) = false := by
    have : (!PySem.W.dataLt (toPy x) (toPy y)) = true := h2
    simpa using this
  have e : PySem.W.keyToks (toPy x) = PySem.W.keyToks (toPy y) := (PyProof.Rows.listOrd PyProof.Rows.itemOrd).total _ _ a2 a1
  cases hq : PySem.PyData.eqv (toPy x) (toPy y) with
  | true => rfl
  | false =>
    have k := (PySem.W.toks_eqv _ _ hal).2 hq
    have k1 := k [] [.inl 0]
    have k2 := k [.inl 0] []
    rw [e, PySem.W.lex_pre, ← e] at k1
    rw [e, PySem.W.lex_pre, ← e] at k2
    have z : PyProof.Rows.lexLt PyProof.Rows.itemOrd ([] : List (Int ⊕ List Nat)) [.inl 0] = true := by simp [PyProof.Rows.lexLt]
    have z2 : PyProof.Rows.lexLt PyProof.Rows.itemOrd [Sum.inl 0] ([] : List (Int ⊕ List Nat)) = false := by simp [PyProof.Rows.lexLt]
    rw [z] at k1
    rw [z2] at k2
    rw [← k1] at k2
    cases k2
theorem leD_anti {n : Nat} {x y : D} (hx : plain n x = true) (hy : plain n y = true) (hal : PySem.W.alike (toPy x) (toPy y) = true) (h1 : leD x y = true) (h2 : leD y x = true) : peq x y = true := by
  rw [peq_py n x y hx hy]; exact leD_pyeq hal h1 h2
/-! ### tables -/
section
variable {α : Type} [DecidableEq α]
def cntA (t : List (α × Nat)) (l : α) : Nat := match t.find? fun p => decide (p.1 = l) with | some p => p.2 | none => 0
def addA (t : List (α × Nat)) (l : α) : List (α × Nat) :=
  if (t.find? fun p => decide (p.1 = l)).isSome = true then t.map (fun p => if p.1 = l then (p.1, cntA t l + 1) else p) else t ++ [(l, cntA t l + 1)]
structure TabOK (s : List α) (t : List (α × Nat)) : Prop where
  nd : (t.map (·.1)).Nodup
  mem : ∀ l c, (l, c) ∈ t ↔ l ∈ s ∧ c = s.count l
theorem TabOK.nil : TabOK ([] : List α) [] := ⟨by simp, by simp⟩
theorem TabOK.nodup {s : List α} {t : List (α × Nat)} (h : TabOK s t) : t.Nodup := by
  have := h.nd
  unfold List.Nodup at this ⊢
  rw [List.pairwise_map] at this
  exact this.imp fun {a b} h e => h (by rw [e])
theorem TabOK.perm {s s' : List α} {t t' : List (α × Nat)} (h : TabOK s t) (h' : TabOK s' t') (e : s.Perm s') : t.Perm t' := by
  refine (List.perm_ext_iff_of_nodup h.nodup h'.nodup).mpr fun ⟨l, c⟩ => ?_
  rw [h.mem, h'.mem, e.mem_iff, e.count_eq]
theorem TabOK.find {s : List α} {t : List (α × Nat)} (h : TabOK s t) (l : α) : (t.find? fun p => decide (p.1 = l)) = if l ∈ s then some (l, s.count l) else none := by
  cases hf : t.find? fun p => decide (p.1 = l) with
  | none =>
    rw [if_neg]
    intro hl
    have := List.find?_eq_none.mp hf (l, s.count l) ((h.mem _ _).mpr ⟨hl, rfl⟩)
    simp at this
  | some p =>
    have h1 := List.find?_some hf
    have h2 := List.mem_of_find?_eq_some hf
    have h3 : p.1 = l := by simpa using h1
    obtain ⟨a, c⟩ := p
    cases h3
    have h4 := (h.mem _ _).mp h2
    rw [if_pos h4.1, h4.2]
theorem TabOK.cnt {s : List α} {t : List (α × Nat)} (h : TabOK s t) (l : α) : cntA t l = s.count l := by
  unfold cntA
  rw [h.find]
  by_cases hl : l ∈ s
  · rw [if_pos hl]
  · rw [if_neg hl]; exact (List.count_eq_zero.mpr hl).symm
theorem TabOK.add {s : List α} {t : List (α × Nat)} (h : TabOK s t) (l : α) : TabOK (s ++ [l]) (addA t l) := by
  unfold addA
  rw [h.find, h.cnt]
  by_cases hl : l ∈ s
  · rw [if_pos hl, if_pos (by rfl)]
    refine ⟨?_, fun a c => ?_⟩
    · rw [List.map_map]
      have e : ((fun p : α × Nat => p.1) ∘ fun p : α × Nat => if p.1 = l then (p.1, s.count l + 1) else p) = fun p => p.1 := by
        funext p; simp only [Function.comp]; split <;> rfl
      rw [e]; exact h.nd
    · rw [List.mem_map, List.mem_append, List.mem_singleton, List.count_append]
      constructor
      · rintro ⟨⟨a', c'⟩, hm, e⟩
        have h2 := (h.mem _ _).mp hm
        split at e
        · rename_i z
          cases z
          injection e with e1 e2
          subst e1; subst e2
          exact ⟨.inl hl, by simp⟩
        · rename_i z
          injection e with e1 e2
          subst e1; subst e2
          refine ⟨.inl h2.1, ?_⟩
          rw [h2.2, List.count_singleton]
          have : ¬ (l == a') = true := fun q => z (by rw [beq_iff_eq] at q; exact q.symm)
          simp [this]
      · rintro ⟨hm, e⟩
        by_cases z : a = l
        · subst z
          refine ⟨(a, s.count a), (h.mem _ _).mpr ⟨hl, rfl⟩, ?_⟩
          rw [if_pos rfl, e]; simp
        · have ha : a ∈ s := hm.elim id fun q => absurd q z
          refine ⟨(a, s.count a), (h.mem _ _).mpr ⟨ha, rfl⟩, ?_⟩
          rw [if_neg z, e, List.count_singleton]
          have : ¬ (l == a) = true := fun q => z (by rw [beq_iff_eq] at q; exact q.symm)
          simp [this]
  · rw [if_neg hl]
    have hc : s.count l = 0 := List.count_eq_zero.mpr hl
    show TabOK (s ++ [l]) (t ++ [(l, s.count l + 1)])
    refine ⟨?_, fun a c => ?_⟩
    · rw [List.map_append, List.nodup_append]
      refine ⟨h.nd, by simp, fun a ha b hb => ?_⟩
      obtain ⟨⟨a', c⟩, hm, rfl⟩ := List.mem_map.mp ha
      have := (h.mem _ _).mp hm
      have hb : b = l := by simpa using hb
      subst hb
      intro e
      exact hl (e ▸ this.1)
    · rw [List.mem_append, List.mem_singleton, List.mem_append, List.mem_singleton, h.mem, List.count_append, hc]
      constructor
      · rintro (⟨h1, h2⟩ | e)
        · refine ⟨.inl h1, ?_⟩
          have z : ¬ (l == a) = true := fun q => hl (by rw [beq_iff_eq] at q; exact q ▸ h1)
          rw [h2, List.count_singleton]; simp [z]
        · injection e with e1 e2
          subst e1
          exact ⟨.inr rfl, by rw [e2, hc]; simp⟩
      · rintro ⟨h1 | h1, e⟩
        · left
          refine ⟨h1, ?_⟩
          have z : ¬ (l == a) = true := fun q => hl (by rw [beq_iff_eq] at q; exact q ▸ h1)
          rw [e, List.count_singleton]; simp [z]
        · right
          subst h1
          rw [e, hc]; simp
theorem TabOK.foldl : ∀ (ls s : List α) (t : List (α × Nat)), TabOK s t → TabOK (s ++ ls) (ls.foldl addA t)
  | [], s, t, h => by simpa using h
  | l :: ls, s, t, h => by
    have := TabOK.foldl ls (s ++ [l]) (addA t l) (h.add l)
    simpa using this
theorem TabOK.of (ls : List α) : TabOK ls (ls.foldl addA []) := by simpa using TabOK.foldl ls [] [] TabOK.nil
/-! ### runs -/
def runStep (sh : List (α × Nat)) (l : α) : List (α × Nat) := match sh.getLast? with
  | some (l', c) => if l' = l then sh.dropLast ++ [(l, c + 1)] else sh ++ [(l, 1)]
  | none => [(l, 1)]
def runs (ls : List α) : List (α × Nat) := ls.foldl runStep []
theorem runStep_same (ini : List (α × Nat)) (l : α) (c : Nat) : runStep (ini ++ [(l, c)]) l = ini ++ [(l, c + 1)] := by
  simp [runStep]
theorem runStep_other (ini : List (α × Nat)) {l l' : α} (c : Nat) (h : l' ≠ l) : runStep (ini ++ [(l', c)]) l = ini ++ [(l', c)] ++ [(l, 1)] := by
  simp [runStep, h]
variable {le : α → α → Bool}
structure RunOK (le : α → α → Bool) (s : List α) (t : List (α × Nat)) : Prop where
  tab : TabOK s t
  srt : (t.map (·.1)).Pairwise fun a b => le a b = true
  last : s.getLast? = (t.map (·.1)).getLast?
theorem RunOK.step (hr : ∀ a b, le a b = true → le b a = true → a = b) {s : List α} {t : List (α × Nat)} (h : RunOK le s t) {l : α} (hs : (s ++ [l]).Pairwise fun a b => le a b = true) : RunOK le (s ++ [l]) (runStep t l) := by
  have hle : ∀ x ∈ s, le x l = true := fun x hx => (List.pairwise_append.mp hs).2.2 x hx l (by simp)
  rcases List.eq_nil_or_concat t with rfl | ⟨ini, ⟨l', c⟩, rfl⟩
  · have : s = [] := by have := h.last; simpa using this
    subst this
    refine ⟨⟨by simp [runStep], fun a b => ?_⟩, by simp [runStep], by simp [runStep]⟩
    simp only [runStep, List.getLast?_nil, List.mem_singleton, List.nil_append]
    constructor
    · intro e; cases e; simp
    · rintro ⟨rfl, e⟩; rw [e]; simp
  · rw [List.concat_eq_append] at *
    by_cases hl : l' = l
    · subst hl
      rw [runStep_same]
      have hmem : (l', c) ∈ ini ++ [(l', c)] := by simp
      have hc := (h.tab.mem _ _).mp hmem
      have hnd := h.tab.nd
      rw [List.map_append, List.nodup_append] at hnd
      refine ⟨⟨?_, fun a b => ?_⟩, ?_, ?_⟩
      · rw [List.map_append, List.nodup_append]; exact hnd
      · have hm := h.tab.mem a
        rw [List.count_append, List.mem_append, List.mem_singleton, List.mem_append, List.mem_singleton, List.count_singleton]
        by_cases z : a = l'
        · subst z
          constructor
          · rintro (h1 | e)
            · exact absurd rfl (hnd.2.2 a (List.mem_map.mpr ⟨_, h1, rfl⟩) a (by simp))
            · injection e with e1 e2
              exact ⟨.inr rfl, by rw [e2, hc.2]; simp⟩
          · rintro ⟨_, e⟩
            right
            rw [e, ← hc.2]; simp
        · have z1 : ¬ (l' == a) = true := fun q => z (by rw [beq_iff_eq] at q; exact q.symm)
          have z2 : (a, b) ≠ (l', c + 1) := fun q => z (by injection q)
          have z3 : (a, b) ≠ (l', c) := fun q => z (by injection q)
          have hm2 := hm b
          rw [List.mem_append, List.mem_singleton] at hm2
          simp only [z1, z2, z3, z, or_false, if_false, Nat.add_zero, Bool.false_eq_true] at hm2 ⊢
          exact hm2
      · have := h.srt
        rw [List.map_append] at this ⊢
        exact this
      · simp
    · rw [runStep_other _ _ hl]
      have hlast : s.getLast? = some l' := by rw [h.last]; simp
      have hnot : l ∉ s := fun hls => by
        obtain ⟨s0, hs0⟩ : ∃ s0, s = s0 ++ [l'] := by
          rcases List.eq_nil_or_concat s with rfl | ⟨s0, x, rfl⟩
          · simp at hlast
          · rw [List.concat_eq_append] at hlast ⊢
            have : x = l' := by simpa using hlast
            exact ⟨s0, by rw [this]⟩
        subst hs0
        rcases List.mem_append.mp hls with h1 | h1
        · have a1 : le l l' = true := (List.pairwise_append.mp (List.pairwise_append.mp hs).1).2.2 l h1 l' (by simp)
          exact hl (hr _ _ (hle l' (by simp)) a1)
        · exact hl (by simpa using h1 : l = l').symm
      have hc : s.count l = 0 := List.count_eq_zero.mpr hnot
      refine ⟨⟨?_, fun a b => ?_⟩, ?_, by simp⟩
      · rw [List.map_append, List.nodup_append]
        refine ⟨h.tab.nd, by simp, fun a ha b hb => ?_⟩
        obtain ⟨⟨a', c'⟩, hm, rfl⟩ := List.mem_map.mp ha
        have hm := (h.tab.mem _ _).mp hm
        have hb : b = l := by simpa using hb
        subst hb
        intro e
        exact hnot (e ▸ hm.1)
      · have hm0 := h.tab.mem a b
        rw [List.mem_append (s := ini ++ [(l', c)]), hm0, List.mem_singleton, List.mem_append, List.mem_singleton, List.count_append]
        constructor
        · rintro (⟨h1, h2⟩ | e)
          · refine ⟨.inl h1, ?_⟩
            have z : ¬ (l == a) = true := fun q => hnot (by rw [beq_iff_eq] at q; exact q ▸ h1)
            rw [h2, List.count_singleton]; simp [z]
          · injection e with e1 e2
            subst e1
            exact ⟨.inr rfl, by rw [e2, hc]; simp⟩
        · rintro ⟨h1 | h1, e⟩
          · left
            refine ⟨h1, ?_⟩
            have z : ¬ (l == a) = true := fun q => hnot (by rw [beq_iff_eq] at q; exact q ▸ h1)
            rw [e, List.count_singleton]; simp [z]
          · right
            subst h1
            rw [e, hc]; simp
      · rw [List.map_append, List.pairwise_append]
        refine ⟨h.srt, by simp, fun a ha b hb => ?_⟩
        obtain ⟨⟨a', c'⟩, hm, rfl⟩ := List.mem_map.mp ha
        have hm := (h.tab.mem _ _).mp hm
        have hb : b = l := by simpa using hb
        subst hb
        exact hle _ hm.1
theorem RunOK.of (hr : ∀ a b, le a b = true → le b a = true → a = b) {ls : List α} (hs : ls.Pairwise fun a b => le a b = true) : RunOK le ls (runs ls) := by
  have key : ∀ (b a : List α) (t : List (α × Nat)), RunOK le a t → (a ++ b).Pairwise (fun a b => le a b = true) → RunOK le (a ++ b) (b.foldl runStep t) := by
    intro b
    induction b with
    | nil => intro a t h _; simpa using h
    | cons l b ih =>
      intro a t h hp
      have e : a ++ l :: b = (a ++ [l]) ++ b := by simp
      rw [e] at hp ⊢
      exact ih _ _ (h.step hr (List.pairwise_append.mp hp).1) hp
  simpa [runs] using key ls [] [] ⟨TabOK.nil, by simp, by simp⟩ (by simpa using hs)
/-- the sorted table is the runs of the sorted list -/
theorem runs_table {le2 : α × Nat → α × Nat → Bool} (hr : ∀ a b, le a b = true → le b a = true → a = b) (h2 : ∀ p q : α × Nat, p.1 ≠ q.1 → (le2 p q = true ↔ le p.1 q.1 = true)) (ht : PySem.W.TotalLe le2) {ls ss : List α} (hp : ss.Perm ls) (hs : ss.Pairwise fun a b => le a b = true) :
    (ls.foldl addA []).mergeSort le2 = runs ss := by
  have h1 := RunOK.of hr hs
  have hT := TabOK.of ls
  have hperm : ((ls.foldl addA []).mergeSort le2).Perm (runs ss) := (List.mergeSort_perm _ _).trans (hT.perm h1.tab hp.symm)
  refine List.Perm.eq_of_pairwise (le := fun p q => le2 p q = true) ?_ (PySem.W.sort_pairwise ht _) ?_ hperm
  · rintro ⟨a, c⟩ ⟨b, d⟩ ha hb e1 e2
    have ha := (h1.tab.mem _ _).mp (hperm.mem_iff.mp ha)
    have hb := (h1.tab.mem _ _).mp hb
    by_cases z : a = b
    · subst z; rw [ha.2, hb.2]
    · exact absurd (hr _ _ ((h2 _ _ z).mp e1) ((h2 _ _ (fun q => z q.symm)).mp e2)) z
  · have hp := h1.srt
    have hn := h1.tab.nd
    unfold List.Nodup at hn
    rw [List.pairwise_map] at hp hn
    exact (hp.and hn).imp fun {p q} h => (h2 p q h.2).mpr h.1
end
end DL

set_option Elab.async false
set_option linter.all false
set_option autoImplicit false
set_option maxRecDepth 100000
/-! DC81: distances, nearest rankings. -/
namespace DL
open PySem (Str)
open PySem
def ivJ (a b : List Nat) (i m : Nat) : Nat := ((List.range m).filter fun j => decide (b.idxOf (a.getD (i + 1 + j) 0) < b.idxOf (a.getD i 0))).length
def ivI (a b : List Nat) (i : Nat) : Nat := ((List.range i).map fun x => ivJ a b x (a.length - (x + 1))).sum
def inv81 (a b : List Nat) : Nat := ivI a b a.length
theorem ivJ_succ (a b : List Nat) (i m : Nat) : ivJ a b i (m + 1) = ivJ a b i m + if b.idxOf (a.getD (i + 1 + m) 0) < b.idxOf (a.getD i 0) then 1 else 0 := by
  unfold ivJ
  rw [List.range_succ, List.filter_append, List.length_append]
  by_cases h : b.idxOf (a.getD (i + 1 + m) 0) < b.idxOf (a.getD i 0)
  · rw [List.filter_cons_of_pos (by simpa using h), if_pos h]; rfl
  · rw [List.filter_cons_of_neg (by simpa using h), if_neg h]; rfl
theorem ivJ_le (a b : List Nat) (i m : Nat) : ivJ a b i m ≤ m := by
  have := List.length_filter_le (fun j => decide (b.idxOf (a.getD (i + 1 + j) 0) < b.idxOf (a.getD i 0))) (List.range m)
  rwa [List.length_range] at this
theorem ivI_succ (a b : List Nat) (i : Nat) : ivI a b (i + 1) = ivI a b i + ivJ a b i (a.length - (i + 1)) := by
  unfold ivI
  rw [List.range_succ, List.map_append, List.sum_append_nat]
  simp
theorem ivI_le (a b : List Nat) : ∀ i, ivI a b i ≤ i * a.length
  | 0 => by simp [ivI]
  | i + 1 => by
    rw [ivI_succ, Nat.succ_mul]
    have h1 := ivI_le a b i
    have h2 := ivJ_le a b i (a.length - (i + 1))
    omega
abbrev pr81 (r q : List Nat) : D := .tup [dN (inv81 r q), tN q]
/-- two orders of the same constraints -/
structure P2 (a b : List Nat) : Prop where
  l : a.length ≤ 1000
  m : ∀ x ∈ a, x ∈ b
def F_place_ofK : FD := fun ds P => ∃ (r : List Nat) (c : Nat), ds = [rkD r, dN c] ∧ c ∈ r ∧ P (dN (r.idxOf c))
def F_all_rankingsK : FD := fun ds P => ∃ n : Nat, ds = [dN n] ∧ 0 < n ∧ n ≤ 6 ∧ P (lK (rk n n))
def F_met_byK : FD := fun ds P => ∃ (n : Nat) (rows : List (List Int)), ds = [dN n, lI rows] ∧ 0 < n ∧ n ≤ 6 ∧ rows.length ≤ 1000 ∧ (∀ c ∈ rows, c.length = n) ∧ P (lK ((rk n n).filter fun r => rows.all (meets r)))
theorem unr_tN (a : List Nat) : unr (tN a) = tN a := by
  show unr (.tup (a.map dN)) = .tup (a.map dN)
  rw [unr_tup, List.map_map]
  congr 1
def F_distanceK : FD := fun ds P => ∃ (d : D) (a b : List Nat), ds = [d, rkD b] ∧ unr d = tN a ∧ P2 a b ∧ P (dN (inv81 a b))
def F__law_inversionsK : FD := fun ds P => ∃ (d : D) (a b : List Nat), ds = [d, rkD b] ∧ unr d = tN a ∧ P2 a b ∧ P (dN (inv81 a b))
/-- the nearest: the first of the sorted -/
def near81 (n : Nat) (rows : List (List Int)) (r : List Nat) : D := ((((rk n n).filter fun q => rows.all (meets q)).map (pr81 r)).mergeSort leD).headD .non
def F_nearest : FDX := fun ds P R => ∃ (n : Nat) (rows : List (List Int)) (r : List Nat), ds = [dN n, lI rows, tN r] ∧ 0 < n ∧ n ≤ 6 ∧ rows.length ≤ 1000 ∧ (∀ c ∈ rows, Cmpr n c) ∧ r.Perm (List.range n) ∧ ((peelAll n rows).2 = [] → P (near81 n rows r)) ∧ ((peelAll n rows).2 ≠ [] → R)
def F__law_told_nearest : FD := fun ds P => ∃ (n : Nat) (rows : List (List Int)) (r : List Nat), ds = [dN n, lI rows, tN r] ∧ 0 < n ∧ n ≤ 6 ∧ rows.length ≤ 1000 ∧ (∀ c ∈ rows, Cmpr n c) ∧ r.Perm (List.range n) ∧ ((peelAll n rows).2 = [] → P (near81 n rows r)) ∧ ((peelAll n rows).2 ≠ [] → P (.str "clash"))
def mb_place_ofK : MS :=
  (sRet (eIdxK (eVar 0) (eVar 1)))

def mb_all_rankingsK : MS :=
  (sRet (eFr (fLc (iPmK (eVar 0)) (DL.gName 1) tNone (eCall fTupleK (aCons (eVar 1) aNil)) [1])))

def mb_met_byK : MS :=
  (sRet (eFr (fLc (iSeq (eCall F_all_rankingsK (aCons (eVar 0) aNil))) (DL.gName 2) (tVal (eCall F_meets_all (aCons (eUnr (eVar 2)) (aCons (eVar 1) aNil)))) (eVar 2) [2])))

def mb_distanceK : MS :=
  (sSeq (sSet 2 (eC (.int 0)))
    (sSeq (sFor (iRange1 (eCall fLen (aCons (eUnr (eVar 0)) aNil))) (DL.gName 3)
    (sFor (iRange2 (eBin oAdd (eVar 3) (eC (.int 1))) (eCall fLen (aCons (eUnr (eVar 0)) aNil))) (DL.gName 4)
    (sIf (tVal (eBin oGt (eCall F_place_ofK (aCons (eVar 1) (aCons (eBin oIx (eUnr (eVar 0)) (eVar 3)) aNil))) (eCall F_place_ofK (aCons (eVar 1) (aCons (eBin oIx (eUnr (eVar 0)) (eVar 4)) aNil))))) (sAug 2 oIAdd (eC (.int 1))) sNop)))
    (sRet (eVar 2))))

def mb__law_inversionsK : MS :=
  (sSeq (sSet 2 (eC (.int 0)))
    (sSeq (sFor (iRange1 (eCall fLen (aCons (eUnr (eVar 0)) aNil))) (DL.gName 3)
    (sFor (iRange2 (eBin oAdd (eVar 3) (eC (.int 1))) (eCall fLen (aCons (eUnr (eVar 0)) aNil))) (DL.gName 4)
    (sIf (tVal (eBin oGt (eIdxK (eVar 1) (eBin oIx (eUnr (eVar 0)) (eVar 3))) (eIdxK (eVar 1) (eBin oIx (eUnr (eVar 0)) (eVar 4))))) (sSet 2 (eBin oAdd (eVar 2) (eC (.int 1)))) sNop)))
    (sRet (eVar 2))))

def mb_nearest : MSX :=
  (xSeq (xCall F_demand_consistent (aCons (eVar 0) (aCons (eVar 1) aNil)))
    (xBv (sRet (eCall fMinN (aCons (eFr (fLc (iSeq (eCall F_met_byK (aCons (eVar 0) (aCons (eVar 1) aNil)))) (DL.gName 3) tNone (eTup (aCons (eCall F_distanceK (aCons (eVar 2) (aCons (eVar 3) aNil))) (aCons (eUnr (eVar 3)) aNil))) [3])) aNil)))))

def mb__law_told_nearest : MS :=
  (sTold 3 F_nearest (aCons (eVar 0) (aCons (eVar 1) (aCons (eVar 2) aNil))) "clash")

theorem hF_place_ofK : ∀ ds Q, F_place_ofK ds Q → ds.length = 2 ∧ mb_place_ofK { nx := fun _ => Q .non, rt := Q } (dstart 2 ds) := by
  rintro ds Q ⟨r, c, rfl, hc, hP⟩
  refine ⟨rfl, ?_⟩
  simp [mb_place_ofK, dstart]
  exact idx_rk (i := 0) (j := 1) r c rfl rfl hc hP
theorem hF_all_rankingsK : ∀ ds Q, F_all_rankingsK ds Q → ds.length = 1 ∧ mb_all_rankingsK { nx := fun _ => Q .non, rt := Q } (dstart 2 ds) := by
  rintro ds Q ⟨n, rfl, h0, h6, hP⟩
  refine ⟨rfl, ?_⟩
  have hl := rk_len7 (n := n) (k := n) (by omega) (by omega)
  simp [mb_all_rankingsK, dstart]
  rw [pms_rk h0 h6]
  refine ⟨h0, by omega, by omega, ?_⟩
  have e : (rk n n).map (fun r => D.rnk (r.map fun k : Nat => (k : Int))) = (rk n n).map rkD := rfl
  rw [e]
  refine lc_filterMap rkD rkD (fun _ => true) (fun r hr Kk Kn hL => ?_) _ ?_
  · simpa [rkD] using hL
  · rw [List.filter_eq_self.mpr (fun _ _ => rfl), List.nil_append]; exact hP
theorem hF_met_byK : ∀ ds Q, F_met_byK ds Q → ds.length = 2 ∧ mb_met_byK { nx := fun _ => Q .non, rt := Q } (dstart 3 ds) := by
  rintro ds Q ⟨n, rows, rfl, h0, hn, hl, hc, hP⟩
  refine ⟨rfl, ?_⟩
  simp [mb_met_byK, dstart]
  have h7 := rk_len7 (n := n) (k := n) (by omega) (by omega)
  refine ⟨n, rfl, h0, hn, ?_⟩
  simp
  refine ⟨by omega, lc_filter rkD (fun r => rows.all (meets r)) (fun r hr Kk Kn h => ?_) _ (by simpa using hP)⟩
  simp at h ⊢
  refine ⟨r, rows, by simp, fun c hcm x hx => by rw [hc c hcm]; exact (rk_mem hr).2.2 x hx, hl, ?_⟩
  cases hm : rows.all (meets r) with
  | true => rw [List.all_eq_true] at hm; simpa [if_pos hm] using h
  | false =>
    have : ¬ ∀ x ∈ rows, meets r x = true := fun z => by rw [← List.all_eq_true, hm] at z; cases z
    simpa [if_neg this] using h
theorem hF_distanceK : ∀ ds Q, F_distanceK ds Q → ds.length = 2 ∧ mb_distanceK { nx := fun _ => Q .non, rt := Q } (dstart 5 ds) := by
  rintro ds Q ⟨d, a, b, rfl, hd, h, hP⟩
  refine ⟨rfl, ?_⟩
  have hl := h.l
  simp [mb_distanceK, dstart, hd]
  refine ⟨by omega, loop_rng0 a.length (fun i env => ∃ e3 e4, env = [some (.val d), some (.val (rkD b)), some (.val (dN (ivI a b i))), e3, e4]) ?_ ?_ _ ⟨none, none, by simp [ivI]⟩⟩
  · rintro env ⟨e3, e4, rfl⟩
    simpa [inv81] using hP
  · rintro i hi Kk env hK ⟨e3, e4, rfl⟩
    have hb := ivI_le a b i
    have hb2 : i * a.length ≤ 1000 * 1000 := Nat.mul_le_mul (by omega) (by omega)
    rw [ivI_succ] at hK
    simp [hd]
    have eI : intsD ((i : Int) + 1) ((a.length : Int) - ((i : Int) + 1)).toNat = intsD ((i + 1 : Nat) : Int) (a.length - (i + 1)) := by
      congr 1
      omega
    rw [eI]
    refine ⟨by omega, loop_rng (i + 1) (a.length - (i + 1)) (fun j env => ∃ e4, env = [some (.val d), some (.val (rkD b)), some (.val (dN (ivI a b i + ivJ a b i j))), some (.val (dN i)), e4]) ?_ ?_ _ ⟨e4, by simp [ivJ]⟩⟩
    · rintro env ⟨e4, rfl⟩
      exact hK _ ⟨_, _, rfl⟩
    · rintro j hj K2 env hK2 ⟨e4, rfl⟩
      have hjl : i + 1 + j < a.length := by omega
      have hbj := ivJ_le a b i j
      rw [ivJ_succ] at hK2
      have g1 : a.getD i 0 = a[i] := by simp [List.getD_eq_getElem?_getD, hi]
      have g2 : a.getD (i + 1 + j) 0 = a[i + 1 + j] := by simp [List.getD_eq_getElem?_getD, hjl]
      rw [g1, g2] at hK2
      have x1 : atI (a.map dN) (i : Int) = some (dN a[i]) := by rw [atI_nat, List.getElem?_map, List.getElem?_eq_getElem hi]; rfl
      have x2 : atI (a.map dN) ((i + 1 + j : Nat) : Int) = some (dN a[i + 1 + j]) := by rw [atI_nat, List.getElem?_map, List.getElem?_eq_getElem hjl]; rfl
      have x2' : atI (a.map dN) ((i : Int) + 1 + (j : Int)) = some (dN a[i + 1 + j]) := by rw [← x2]; congr 1
      have m1 := h.m _ (List.getElem_mem hi)
      have m2 := h.m _ (List.getElem_mem hjl)
      simp [hd, x1, x2']
      refine ⟨b, a[i], rfl, m1, b, a[i + 1 + j], rfl, m2, ?_⟩
      show if ((b.idxOf a[i + 1 + j] : Nat) : Int) < ((b.idxOf a[i] : Nat) : Int) then _ else _
      by_cases hlt : b.idxOf a[i + 1 + j] < b.idxOf a[i]
      · rw [if_pos hlt] at hK2
        rw [if_pos (by omega)]
        have e : ((ivI a b i : Nat) : Int) + (ivJ a b i j : Nat) + 1 = ((ivI a b i + (ivJ a b i j + 1) : Nat) : Int) := by omega
        rw [e]
        exact hK2 _ ⟨_, rfl⟩
      · rw [if_neg hlt] at hK2
        rw [if_neg (by omega)]
        exact hK2 _ ⟨_, rfl⟩
theorem hF__law_inversionsK : ∀ ds Q, F__law_inversionsK ds Q → ds.length = 2 ∧ mb__law_inversionsK { nx := fun _ => Q .non, rt := Q } (dstart 5 ds) := by
  rintro ds Q ⟨d, a, b, rfl, hd, h, hP⟩
  refine ⟨rfl, ?_⟩
  have hl := h.l
  simp [mb__law_inversionsK, dstart, hd]
  refine ⟨by omega, loop_rng0 a.length (fun i env => ∃ e3 e4, env = [some (.val d), some (.val (rkD b)), some (.val (dN (ivI a b i))), e3, e4]) ?_ ?_ _ ⟨none, none, by simp [ivI]⟩⟩
  · rintro env ⟨e3, e4, rfl⟩
    simpa [inv81] using hP
  · rintro i hi Kk env hK ⟨e3, e4, rfl⟩
    have hb := ivI_le a b i
    have hb2 : i * a.length ≤ 1000 * 1000 := Nat.mul_le_mul (by omega) (by omega)
    rw [ivI_succ] at hK
    simp [hd]
    have eI : intsD ((i : Int) + 1) ((a.length : Int) - ((i : Int) + 1)).toNat = intsD ((i + 1 : Nat) : Int) (a.length - (i + 1)) := by
      congr 1
      omega
    rw [eI]
    refine ⟨by omega, loop_rng (i + 1) (a.length - (i + 1)) (fun j env => ∃ e4, env = [some (.val d), some (.val (rkD b)), some (.val (dN (ivI a b i + ivJ a b i j))), some (.val (dN i)), e4]) ?_ ?_ _ ⟨e4, by simp [ivJ]⟩⟩
    · rintro env ⟨e4, rfl⟩
      exact hK _ ⟨_, _, rfl⟩
    · rintro j hj K2 env hK2 ⟨e4, rfl⟩
      have hjl : i + 1 + j < a.length := by omega
      have hbj := ivJ_le a b i j
      rw [ivJ_succ] at hK2
      have g1 : a.getD i 0 = a[i] := by simp [List.getD_eq_getElem?_getD, hi]
      have g2 : a.getD (i + 1 + j) 0 = a[i + 1 + j] := by simp [List.getD_eq_getElem?_getD, hjl]
      rw [g1, g2] at hK2
      have x1 : atI (a.map dN) (i : Int) = some (dN a[i]) := by rw [atI_nat, List.getElem?_map, List.getElem?_eq_getElem hi]; rfl
      have x2 : atI (a.map dN) ((i + 1 + j : Nat) : Int) = some (dN a[i + 1 + j]) := by rw [atI_nat, List.getElem?_map, List.getElem?_eq_getElem hjl]; rfl
      have x2' : atI (a.map dN) ((i : Int) + 1 + (j : Int)) = some (dN a[i + 1 + j]) := by rw [← x2]; congr 1
      have m1 := h.m _ (List.getElem_mem hi)
      have m2 := h.m _ (List.getElem_mem hjl)
      simp [hd, x1, x2']
      simp [eIdxK, hd, rkD, x1, x2', idx_map, m1, m2]
      refine ⟨⟨_, m1, rfl⟩, ⟨_, m2, rfl⟩, ?_⟩
      by_cases hlt : b.idxOf a[i + 1 + j] < b.idxOf a[i]
      · rw [if_pos hlt] at hK2
        rw [if_pos (by omega)]
        have e : ((ivI a b i : Nat) : Int) + (ivJ a b i j : Nat) + 1 = ((ivI a b i + (ivJ a b i j + 1) : Nat) : Int) := by omega
        rw [e]
        exact hK2 _ ⟨_, rfl⟩
      · rw [if_neg hlt] at hK2
        rw [if_neg (by omega)]
        exact hK2 _ ⟨_, rfl⟩
theorem pr81_plain (r q : List Nat) : plain 8 (pr81 r q) = true := by
  show plain (7 + 1) _ = true
  simp only [plain, plains, plain_int, Bool.true_and, Bool.and_true]
  exact plain_tN 6 q
theorem pr81_plains (r : List Nat) : ∀ l : List (List Nat), plains 8 (l.map (pr81 r)) = true
  | [] => by simp [plains]
  | q :: l => by rw [List.map_cons, plains_cons]; exact ⟨pr81_plain r q, pr81_plains r l⟩
theorem pr81_alike (r a b : List Nat) : PySem.W.alike (toPy (pr81 r a)) (toPy (pr81 r b)) = true := by
  have h : ∀ l : List Nat, (l.map dN).map toPy = (l.map fun k : Nat => (k : Int)).map PyData.int := fun l => by
    rw [List.map_map, List.map_map]
    exact List.map_congr_left fun k _ => by simp [toPy]
  simp only [pr81, toPy, List.map_cons, List.map_nil, h, PySem.W.alike, PySem.W.alikeAll, PySem.W.alike_ints, Bool.and_true]
theorem pr81_inj {r a b : List Nat} (h1 : leD (pr81 r a) (pr81 r b) = true) (h2 : leD (pr81 r b) (pr81 r a) = true) : pr81 r a = pr81 r b := by
  have h := leD_anti (pr81_plain r a) (pr81_plain r b) (pr81_alike r a b) h1 h2
  have e : ∀ a b : List Nat, peqs (a.map dN) (b.map dN) = decide (a = b) := by
    intro a
    induction a with
    | nil => intro b; cases b <;> simp [peqs]
    | cons x a ih =>
      intro b
      cases b with
      | nil => simp [peqs]
      | cons y b =>
        rw [List.map_cons, List.map_cons, peqs, ih, peq_ii]
        by_cases h : x = y <;> by_cases h2 : a = b <;> simp [h, h2] <;> omega
  simp only [pr81, peq, peqs, Bool.and_eq_true, Bool.and_true] at h
  have := h.2
  rw [e] at this
  rw [of_decide_eq_true this]
theorem near_head (r : List Nat) {M : List (List Nat)} (hne : M ≠ []) {y : D} (hy : y ∈ M.map (pr81 r)) (hm : ∀ z ∈ M.map (pr81 r), leD y z = true) : y = ((M.map (pr81 r)).mergeSort leD).headD .non := by
  have hp := List.mergeSort_perm (M.map (pr81 r)) leD
  have hs := PySem.W.sort_pairwise leD_total (M.map (pr81 r))
  cases h : (M.map (pr81 r)).mergeSort leD with
  | nil =>
    rw [h] at hp
    have := hp.length_eq
    simp at this
    exact absurd this.symm (by simpa using hne)
  | cons z zs =>
    rw [h] at hp hs
    show y = z
    have hz : z ∈ M.map (pr81 r) := hp.mem_iff.mp (List.mem_cons_self ..)
    have hy2 := hp.mem_iff.mpr hy
    have hzy : leD z y = true := by
      rcases List.mem_cons.mp hy2 with rfl | q
      · exact leD_total.refl _
      · exact (List.pairwise_cons.mp hs).1 y q
    obtain ⟨a, _, rfl⟩ := List.mem_map.mp hy
    obtain ⟨b, _, rfl⟩ := List.mem_map.mp hz
    exact pr81_inj (hm _ hz) hzy
theorem p2_perm {n : Nat} {a b : List Nat} (hn : n ≤ 1000) (h1 : a.Perm (List.range n)) (h2 : b.Perm (List.range n)) : P2 a b :=
  ⟨by rw [h1.length_eq, List.length_range]; exact hn, fun x hx => h2.mem_iff.mpr (h1.mem_iff.mp hx)⟩
theorem hF_nearest : ∀ ds Q R, F_nearest ds Q R → ds.length = 3 ∧ mb_nearest { nx := fun _ => Q .non, rt := Q } R (dstart 4 ds) := by
  rintro ds Q R ⟨n, rows, r, rfl, h0, hn, hl, hc, hr, h1, h2⟩
  refine ⟨rfl, ?_⟩
  have hlen : ∀ c ∈ rows, c.length = n := fun c h => (hc c h).len
  simp [mb_nearest, dstart]
  refine ⟨n, rows, rfl, by omega, hl, hlen, fun hp => ?_, h2⟩
  refine ⟨n, rows, rfl, h0, hn, hl, hlen, ?_⟩
  have h7 := rk_len7 (n := n) (k := n) (by omega) (by omega)
  have hml : ((rk n n).filter fun q => rows.all (meets q)).length ≤ 823543 := Nat.le_trans (List.length_filter_le _ _) h7
  have hne := (met_iff hc).mpr hp
  have hM : ∀ q ∈ (rk n n).filter (fun q => rows.all (meets q)), q.Perm (List.range n) := fun q hq => rk_range (List.mem_filter.mp hq).1
  have hP := h1 hp
  unfold near81 at hP
  generalize (rk n n).filter (fun q => rows.all (meets q)) = M at hml hne hM hP ⊢
  simp [-List.map_map]
  refine ⟨by omega, lc_filterMap rkD (pr81 r) (fun _ => true) (fun q hq K3 Kn hL => ?_) _ ?_⟩
  · simp
    refine ⟨tN r, r, q, rfl, unr_tN r, p2_perm (by omega) hr (hM q hq), ?_⟩
    simpa using hL
  · rw [List.filter_eq_self.mpr (fun _ _ => rfl), List.nil_append]
    refine ⟨_, rfl, by simpa using hne, pr81_plains r M, ?_, fun x hx => ?_, fun y hy hm => ?_⟩
    · rw [List.map_map]
      exact PySem.W.AllAlike.of fun a b => pr81_alike r a b
    · obtain ⟨q, _, rfl⟩ := List.mem_map.mp hx
      simp [pr81, toPy]
    · rw [near_head r hne hy hm]
      exact hP
theorem hF__law_told_nearest : ∀ ds Q, F__law_told_nearest ds Q → ds.length = 3 ∧ mb__law_told_nearest { nx := fun _ => Q .non, rt := Q } (dstart 4 ds) := by
  rintro ds Q ⟨n, rows, r, rfl, h0, hn, hl, hc, hr, h1, h2⟩
  refine ⟨rfl, ?_⟩
  simp [mb__law_told_nearest, dstart]
  exact ⟨n, rows, r, rfl, h0, hn, hl, hc, hr, h1, h2⟩
end DL

set_option Elab.async false
set_option linter.all false
set_option autoImplicit false
set_option maxRecDepth 100000
set_option maxHeartbeats 1000000
/-! GD1: for k in d, d a locked dict whose keys are tuples. -/
namespace GD
open PySem PySem.Spec PyProof.Rows L2
section
variable {X : Cx} {pins : List (Addr × Obj)} {σ : L2.St} {H : Hp} {s : Shared} {d : Addr} {o : Obj} {m : GM}
theorem g_frz (I : Inv X pins σ H s) (h : H d = some (.frz o (gO d m))) : (d == sysModules) = false ∧ s.heap.get? d = some o ∧ o.ExactDict ∧ ∃ (es : Array DictEntry) (ep : Nat), o.data = .dict es ep ∧ es.size = m.length ∧
    ∀ (i : Nat) (p : NestedKey × Addr × V), m[i]? = some p → ∃ en : DictEntry, es[i]? = some en ∧ en.key = .ref p.2.1 := by
  obtain ⟨hd, ⟨z, hl, xs, r, o', es, ep, ho, hx, hdt, he, _⟩, _⟩ := I.hok d _ h
  rw [hd] at ho
  cases ho
  have he := he X.prog X.w
  refine ⟨z, hd, hx, es, ep, hdt, ?_, fun i p e => ?_⟩
  · have l1 : es.size = xs.length := size_of_entries he
    have l2 : m.length = xs.length := Paired.length r
    omega
  · obtain ⟨b, hb, e1, e2, _⟩ := paired_get r e
    have q := entry_at he i
    rw [hb] at q
    exact ⟨_, q, by rw [e2]; rfl⟩
end
/-- the keys of the locked dict at d, in their order -/
def ItG (d : Addr) (o : Obj) (m : GM) : It :=
  ⟨fun i H => H d = some (.frz o (gO d m)) ∧ i < m.length, fun i H x H' => H' = H ∧ ∃ p, m[i]? = some p ∧ x = .ref p.2.1, fun i H => H d = some (.frz o (gO d m)) ∧ m.length ≤ i⟩
section
variable {P : Program} {w : World} {K : PySem.W.Frag} {tg : Expr} {d : Addr} {o : Obj} {es : Array DictEntry} {ep : Nat}
theorem turn_gkeys {m : GM} (it : Addr) (hod : o.data = .dict es ep) : Turn P w K tg (ItG d o m) [it] it (fun i h => h.IsKeyIter it d i m.length ep) where
  mem := by simp
  obj := fun i h st b hb => by
    have e : b = it := by simpa using hb
    subst e
    obtain ⟨oi, e, c, dd⟩ := st
    exact ⟨oi, e, fun v z => by rw [dd] at z; cases z⟩
  keep := fun i h h' st k => st.at fun oi e => k it (by simp) oi e
  item := by
    intro X hP hw hK hc i pins s σ H E I hf st hg
    subst hP hw hK
    obtain ⟨hd, hi⟩ := hg
    obtain ⟨f0, f1, f2, f3, f4, f5⟩ := hf it (by simp)
    obtain ⟨hs, hgd, hx, es', ep', hdt, hsz, ent⟩ := g_frz I hd
    obtain ⟨rfl, rfl⟩ := dict_ep hod hdt
    obtain ⟨p, hp⟩ : ∃ p, m[i]? = some p := ⟨m[i], List.getElem?_eq_getElem hi⟩
    obtain ⟨en, hen, hkey⟩ := ent i p hp
    refine next_key_item st hgd hdt hsz hen fun h' st' sb => ?_
    have I1 : Inv X pins σ H { s with heap := h' } := I.turned (t' := s.toks) (fun b ob hb e => (sb.2 b hb).trans e) f0 f1 f3 f4 f5
    obtain ⟨oi, e, c, dd⟩ := id st'
    exact ⟨en.key, rfl, go_of (s := { s with heap := h' }) e c dd (by decide) ⟨.ref p.2.1, H, I1, hkey, ⟨rfl, p, hp, rfl⟩, st', fun b hb => (hf b hb).1⟩⟩
  done := by
    intro X hP hw hK hc i pins s σ H E I hf st hg
    subst hP hw hK
    obtain ⟨hd, hi⟩ := hg
    obtain ⟨f0, f1, f2, f3, f4, f5⟩ := hf it (by simp)
    obtain ⟨hs, hgd, hx, es', ep', hdt, hsz, ent⟩ := g_frz I hd
    obtain ⟨rfl, rfl⟩ := dict_ep hod hdt
    exact next_key_end (I.ok.hd hc) st hgd hdt hsz hi fun h' eb => ⟨rfl, I.turned (t' := s.toks) (fun b ob hb e => eb b ob hb e) f0 f1 f3 f4 f5⟩
  self := fun A i s Q E st h => by
    refine wpAny_pyIter_slot st.typeIs F.slot_dict_keyiterator_iter (wpAny_call_entry F.slot_dict_keyiterator_iter st.typeIs F.entry_dict_keyiterator_iter ?_ (F.args_dict_keyiterator_iter_1 _))
    show wpAny _ _ (ret (.ref it)) _ _ s
    exact wpAny_pure ⟨_, rfl, "dict_keyiterator", _, st.typeIs, F.slot_dict_keyiterator_next.lookup, h⟩
end
def iGKeys (td : TE) : TI := fun σ H R => td σ H fun x H1 => ∃ d o m, x = .ref d ∧ H1 d = some (.frz o (gO d m)) ∧ R (ItG d o m) H1
section
variable {X : Cx} {tg e : Expr} {td : TE}
theorem pi_gkeys (he : PE X e td) : PI X tg e (iGKeys td) := by
  refine ⟨fun pins s σ H R I h => ?_⟩
  refine thn (he.run pins s σ H _ I h) fun u s1 ⟨x, H1, I1, rx, d, o, m, ex, hd, q⟩ => ?_
  subst ex
  obtain rfl : u = Value.ref d := rx
  obtain ⟨hs, hgd, hx, es, ep, hdt, hsz, ent⟩ := g_frz I1 hd
  refine iter_keys hs hgd hx hdt (pi_one (tk := s1.toks) I1 _ (turn_gkeys _ hdt) ⟨_, Heap.get?_push_size _ rfl, rfl, ?_⟩ q)
  rw [hsz] <;> rfl
end
/-! the rules by values -/
section
variable {X : Cx}
def rIxG (K : PySem.W.Frag) : R2 := fun x y H Q => ∃ a m k b v, x = .ref a ∧ y = .ref b ∧ GAt H a m ∧ GKeys K H m ∧ KeyH K H (.ref b) k ∧ atM m k = some v ∧ Q v H
theorem ix_G (hu : X.A.units + 20 < cLine) : IxR X (rIxG X.K) := by
  intro value slice pins s σ H x y v u Q I rx ry ⟨a, m, k, b, r, ex, ey, g, hk, hy, hv, q⟩ hs
  subst ex ey
  obtain rfl : v = Value.ref a := rx
  obtain rfl : u = Value.ref b := ry
  obtain ⟨z, hl, xs, rr, dd⟩ := g_dict I g hk
  exact tail_any dd.typeIs PySem.F.slot_dict_getitem.lookup (g_getItem hu I g hk hy hv fun w' s3 I3 rw' => ⟨r, H, I3, rw', q⟩) hs
def rInG (K : PySem.W.Frag) : R2 := fun x y H Q => ∃ a m k b, y = .ref a ∧ x = .ref b ∧ GAt H a m ∧ GKeys K H m ∧ KeyH K H (.ref b) k ∧ Q (.bl (atM m k).isSome) H
theorem op_inG (hu : X.A.units + 20 < cLine) : OpR X (compareOp .In) (rInG X.K) := by
  intro pins s σ H x y v u Q I rx ry ⟨a, m, k, b, ey, ex, g, hk, hy, q⟩
  subst ex ey
  obtain rfl : u = Value.ref a := ry
  obtain rfl : v = Value.ref b := rx
  exact g_in hu I g hk hy fun s3 I3 => ⟨.bl (atM m k).isSome, H, I3, rfl, q⟩
def rGetG (K : PySem.W.Frag) : V → List V → Hp → VK → Prop := fun x xs H Q => ∃ a m k b z, x = .ref a ∧ xs = [.ref b, z] ∧ GAt H a m ∧ GKeys K H m ∧ KeyH K H (.ref b) k ∧ Q ((atM m k).getD z) H
theorem mt_getG (hu : X.A.units + 20 < cLine) : MtR X "dict.get" (rGetG X.K) := by
  intro pins s σ H x xs v us Q I rx rs ⟨a, m, k, b, z, ex, es, g, hk, hy, q⟩
  subst ex es
  obtain rfl : v = Value.ref a := rx
  cases rs with
  | cons r1 rs =>
    cases rs with
    | cons r2 rs =>
      cases rs
      cases (show _ = Value.ref b from r1)
      exact g_get2 hu I g hk hy r2 fun w' s3 I3 rw' => ⟨_, H, I3, rw', q⟩
def rSetG (K : PySem.W.Frag) : V → V → V → Hp → (Hp → Prop) → Prop := fun o i v H Q => ∃ a m k b, o = .ref a ∧ i = .ref b ∧ GPut H a m ∧ GKeys K H m ∧ KeyH K H (.ref b) k ∧ m.length < sizeLine ∧ Q (upd H a (gO a (putM m k b v)))
theorem set_G (hu : X.A.units + 20 < cLine) : PSet X (rSetG X.K) := by
  intro pins s σ H o i v ov iv u Q I ro ri rv ⟨a, m, k, b, eo, ei, g, hk, hy, hl, q⟩
  subst eo ei
  obtain rfl : ov = Value.ref a := ro
  obtain rfl : iv = Value.ref b := ri
  exact g_setItem hu I g hk hy hl rv fun s3 I3 => ⟨_, I3, q⟩
/-- a thing is locked for good -/
def tGhost (t : TS) : TS := fun D σ H => ∃ d u, H d = some u ∧ Mut (some u) ∧ ∀ od, t D σ (upd H d (.frz od u))
theorem pss_ghost {st : List Stmt} {t : TS} (h : PSs X st t) : PSs X st (tGhost t) := by
  refine ⟨fun pins s σ H D I hw => ?_⟩
  obtain ⟨d, u, hd, mu, hw⟩ := hw
  obtain ⟨od, I1⟩ := I.lock hd mu
  exact h.run pins s σ _ _ I1 (hw od)
end
end GD

set_option Elab.async false
set_option linter.all false
set_option autoImplicit false
set_option maxRecDepth 100000
/-! DDc: dicts whose keys are ints and strs, over data. -/
namespace DL
open PySem PySem.Spec PyProof.Rows L2
def keyOf : D → Option Key
  | .int i => some (.inl i)
  | .str x => some (.inr x)
  | _ => none
def isK (d : D) : Bool := (keyOf d).isSome
def dLook (kvs : List (D × D)) (x : D) : Option D := (kvs.find? fun p => decide (keyOf p.1 = keyOf x)).map (·.2)
def dPut (kvs : List (D × D)) (x d : D) : List (D × D) :=
  if (kvs.any fun p => decide (keyOf p.1 = keyOf x)) = true then kvs.map (fun p => if keyOf p.1 = keyOf x then (p.1, d) else p) else kvs ++ [(x, d)]
theorem keyOf_keyD (k : Key) : keyOf (keyD k) = some k := by cases k <;> rfl
theorem keyOf_t (k : List Key) : keyOf (tkeyD k) = none := rfl
section
variable {K : PySem.W.Frag} {Pl O : Addr → Prop} {H : Hp} {x : D} {k : Key} {v : V}
theorem key_rep (h : keyOf x = some k) (r : Rep K Pl O H x v) : x = keyD k ∧ v = kV k := by
  cases x with
  | int i => cases h; exact ⟨rfl, r⟩
  | str s => cases h; exact ⟨rfl, r⟩
  | _ => cases h
theorem look_rep : ∀ (m : List (Key × V)) (vs : List D), Reps K Pl O H vs (m.map (·.2)) →
    (dLook ((m.map fun p => keyD p.1).zip vs) (keyD k) = none ∧ valV m k = none) ∨ ∃ d v, dLook ((m.map fun p => keyD p.1).zip vs) (keyD k) = some d ∧ valV m k = some v ∧ Rep K Pl O H d v
  | [], vs, r => .inl ⟨by cases vs <;> rfl, rfl⟩
  | p :: m, vs, r => by
    cases vs with
    | nil => cases r
    | cons d vs =>
      obtain ⟨v, us, e, r1, r2⟩ := r
      rw [List.map_cons] at e
      injection e with e1 e2
      subst e1; subst e2
      by_cases h : p.1 = k
      · refine .inr ⟨d, p.2, ?_, valV_pos h, r1⟩
        simp [dLook, keyOf_keyD, h]
      · rcases look_rep m vs r2 with ⟨h1, h2⟩ | ⟨d', v', h1, h2, h3⟩
        · refine .inl ⟨?_, by rw [valV_neg h]; exact h2⟩
          simpa [dLook, keyOf_keyD, h] using h1
        · refine .inr ⟨d', v', ?_, by rw [valV_neg h]; exact h2, h3⟩
          simpa [dLook, keyOf_keyD, h] using h1
theorem put_map {d : D} (rd : Rep K Pl O H d v) : ∀ (m : List (Key × V)) (kvs : List (D × D)), kvs.map (·.1) = m.map (fun p => keyD p.1) → Reps K Pl O H (kvs.map (·.2)) (m.map (·.2)) →
    (kvs.map (fun p => if keyOf p.1 = some k then (p.1, d) else p)).map (·.1) = (m.map (fun kv => if kv.1 = k then (kv.1, v) else kv)).map (fun p => keyD p.1) ∧ Reps K Pl O H ((kvs.map (fun p => if keyOf p.1 = some k then (p.1, d) else p)).map (·.2)) ((m.map (fun kv => if kv.1 = k then (kv.1, v) else kv)).map (·.2))
  | [], kvs, e, r => by
    cases kvs with
    | nil => exact ⟨rfl, rfl⟩
    | cons _ _ => cases e
  | p :: m, [], e, r => by cases e
  | p :: m, q :: kvs, e, r => by
    simp only [List.map_cons] at e r ⊢
    injection e with e1 e2
    obtain ⟨w, us, eu, r1, r2⟩ := r
    injection eu with u1 u2
    subst u1; subst u2
    obtain ⟨i1, i2⟩ := put_map rd m kvs e2 r2
    rw [e1, keyOf_keyD]
    by_cases h : p.1 = k
    · rw [if_pos (by rw [h]), if_pos h]
      exact ⟨by rw [i1, ← e1], v, _, rfl, rd, i2⟩
    · rw [if_neg (fun z => h (Option.some.inj z)), if_neg h]
      exact ⟨by rw [i1, e1], p.2, _, rfl, r1, i2⟩
theorem put_rep {d : D} (rd : Rep K Pl O H d v) (m : List (Key × V)) (kvs : List (D × D)) (e : kvs.map (·.1) = m.map (fun p => keyD p.1)) (r : Reps K Pl O H (kvs.map (·.2)) (m.map (·.2))) :
    (dPut kvs (keyD k) d).map (·.1) = (putK m k v).map (fun p => keyD p.1) ∧ Reps K Pl O H ((dPut kvs (keyD k) d).map (·.2)) ((putK m k v).map (·.2)) := by
  have ha : (kvs.any fun p => decide (keyOf p.1 = keyOf (keyD k))) = (m.any fun kv => decide (kv.1 = k)) := by
    have h1 : (kvs.any fun p => decide (keyOf p.1 = keyOf (keyD k))) = (kvs.map (·.1)).any fun y => decide (keyOf y = some k) := by
      rw [List.any_map, keyOf_keyD]; rfl
    rw [h1, e, List.any_map]
    congr 1
    funext p
    simp [keyOf_keyD]
  unfold dPut putK
  rw [ha, keyOf_keyD]
  split
  · exact put_map rd m kvs e r
  · refine ⟨by rw [List.map_append, List.map_append, e]; rfl, ?_⟩
    rw [List.map_append, List.map_append]
    exact r.app (Reps.one rd)
/-- keys that are ints and strs: the dict is so -/
theorem allK {m : List (List Key × V)} {ks : List D} (e : ks = m.map fun p => tkeyD p.1) (h : ∀ y ∈ ks, isK y = true) : ks = [] ∧ m = [] := by
  cases m with
  | nil => exact ⟨e, rfl⟩
  | cons p m =>
    have := h (tkeyD p.1) (by rw [e]; exact List.mem_cons_self ..)
    cases this
theorem isK_some {y : D} (h : isK y = true) : ∃ k, keyOf y = some k := Option.isSome_iff_exists.mp h
end
theorem u1 {k : Nat} {A : Around} (r : Room k A) : A.units + 1 < cLine := by have := u65 r; omega
/-! ### reading -/
section
variable {X : Cx} {Tb : Addr → Prop}
/-- d[k] -/
@[simp] def oIxD : O2 := fun x y P => match x with
  | .dct ks vs => isK y = true ∧ (∀ k ∈ ks, isK k = true) ∧ ∃ d, dLook (ks.zip vs) y = some d ∧ P d
  | _ => False
theorem ix_D (hu : X.A.units + 1 < cLine) : ∃ r, IxR X r ∧ ∀ (Pl O : Addr → Prop) (H : Hp) (x y : D) (v u : V) (Q : VK) (P : D → Prop), (∀ p, H p = none → ¬ O p) → Rep X.K Pl O H x v → Rep X.K Pl O H y u → oIxD x y P → (∀ H' z d, Same H H' → Rep X.K Pl O H' d z → P d → Q z H') → r v u H Q := by
  refine ⟨_, DO.ix_X hu, fun Pl O H x y v u Q P hO rx ry h hq => ?_⟩
  cases x <;> first | exact False.elim h | skip
  obtain ⟨h1, h2, d, h3, h4⟩ := h
  obtain ⟨k, hk⟩ := isK_some h1
  obtain ⟨rfl, rfl⟩ := key_rep hk ry
  obtain ⟨a, rfl, nO, ⟨m, e, rfl, r⟩ | ⟨m, e, ek, r⟩⟩ := rx
  · rcases look_rep (k := k) m _ r with ⟨g, _⟩ | ⟨d', v', g1, g2, g3⟩
    · rw [h3] at g; cases g
    · rw [h3] at g1
      cases g1
      exact ⟨a, v', rfl, by rw [← g2]; exact DGet.k e, hq H v' d (Same.refl _) g3 h4⟩
  · obtain ⟨rfl, rfl⟩ := allK ek h2
    cases h3
/-- the dict's answer at a key -/
theorem get_rep {Pl O : Addr → Prop} {H : Hp} {ks vs : List D} {y : D} {v u : V} (h1 : isK y = true) (h2 : ∀ k ∈ ks, isK k = true) (rx : Rep X.K Pl O H (.dct ks vs) v) (ry : Rep X.K Pl O H y u) :
    ∃ a o, v = .ref a ∧ DO.DGetX H a u o ∧ ((dLook (ks.zip vs) y = none ∧ o = none) ∨ ∃ d w, dLook (ks.zip vs) y = some d ∧ o = some w ∧ Rep X.K Pl O H d w) := by
  obtain ⟨k, hk⟩ := isK_some h1
  obtain ⟨rfl, rfl⟩ := key_rep hk ry
  obtain ⟨a, rfl, nO, ⟨m, e, rfl, r⟩ | ⟨m, e, ek, r⟩⟩ := rx
  · exact ⟨a, valV m k, rfl, .inl (DGet.k e), look_rep m _ r⟩
  · obtain ⟨rfl, rfl⟩ := allK ek h2
    exact ⟨a, none, rfl, .inr ⟨rfl, .inr ⟨e, k, rfl⟩⟩, .inl ⟨rfl, rfl⟩⟩
@[simp] def oInD : O2 := fun y x P => match x with
  | .dct ks vs => isK y = true ∧ (∀ k ∈ ks, isK k = true) ∧ P (.bl (dLook (ks.zip vs) y).isSome)
  | _ => False
@[simp] def oNotInD : O2 := fun y x P => match x with
  | .dct ks vs => isK y = true ∧ (∀ k ∈ ks, isK k = true) ∧ P (.bl (!(dLook (ks.zip vs) y).isSome))
  | _ => False
theorem ov_inK (hu : X.A.units + 1 < cLine) : OV X (compareOp .In) oInD := by
  refine ⟨_, DO.op_inX hu, fun Pl O H x y v u Q P hO rx ry h hq => ?_⟩
  cases y <;> first | exact False.elim h | skip
  obtain ⟨h1, h2, h⟩ := h
  obtain ⟨a, o, rfl, g, hh⟩ := get_rep h1 h2 ry rx
  refine ⟨a, o, rfl, g, hq H _ (.bl _) (Same.refl _) rfl ?_⟩
  rcases hh with ⟨e1, rfl⟩ | ⟨d, w, e1, rfl, _⟩
  · simpa [e1] using h
  · simpa [e1] using h
theorem ov_notInK (hu : X.A.units + 1 < cLine) : OV X (compareOp .NotIn) oNotInD := by
  refine ⟨_, DO.op_notInX hu, fun Pl O H x y v u Q P hO rx ry h hq => ?_⟩
  cases y <;> first | exact False.elim h | skip
  obtain ⟨h1, h2, h⟩ := h
  obtain ⟨a, o, rfl, g, hh⟩ := get_rep h1 h2 ry rx
  refine ⟨a, o, rfl, g, hq H _ (.bl _) (Same.refl _) rfl ?_⟩
  rcases hh with ⟨e1, rfl⟩ | ⟨d, w, e1, rfl, _⟩
  · simpa [e1] using h
  · simpa [e1] using h
/-- sorted(d), int keys -/
def fSortedD : FD := fun ds P => ∃ (ns : List Int) (vs : List D), ds = [.dct (ns.map D.int) vs] ∧ ns.length < 64 ∧ ∀ ns' : List Int, ns'.Perm ns → ns'.Pairwise (· ≤ ·) → P (.lst (ns'.map D.int))
theorem intK : ∀ (m : List (Key × V)) (ns : List Int), ns.map D.int = m.map (fun p => keyD p.1) → m.map (·.1) = ns.map Sum.inl
  | [], [], _ => rfl
  | [], _ :: _, e => by cases e
  | _ :: _, [], e => by cases e
  | (k, v) :: m, n :: ns, e => by
    rw [List.map_cons, List.map_cons] at e
    injection e with e1 e2
    rw [List.map_cons, List.map_cons, intK m ns e2]
    cases k with
    | inl i => injection e1 with e1; rw [e1]
    | inr s => cases e1
theorem cv_sortedD (hc : X.calm = true) : CV X (.builtin "sorted") fSortedD := by
  refine ⟨_, DO.call_sortedX hc, fun Pl O H ds vs Q P hO r h hq => ?_⟩
  obtain ⟨ns, ws, rfl, h64, h⟩ := h
  obtain ⟨v, us, rfl, ⟨a, rfl, nO, rr⟩, rfl⟩ := r
  refine ⟨a, ns, rfl, ?_, h64, fun ys p h1 h2 hp => hq _ _ (.lst (ys.map D.int)) (same_upd hp) (rep_new_lst hO (reps_ints ys) hp) (h ys h1 h2)⟩
  rcases rr with ⟨m, e, ek, _⟩ | ⟨m, e, ek, _⟩
  · exact .inl ⟨m, e, intK m ns ek⟩
  · obtain ⟨h1, rfl⟩ := allK ek fun y hy => by obtain ⟨n, _, rfl⟩ := List.mem_map.mp hy; rfl
    refine .inr ⟨e, ?_⟩
    cases ns with
    | nil => rfl
    | cons _ _ => cases h1
end
/-! ### d.get(k, z) -/
section
variable {X : Cx} {Tb : Addr → Prop} {o e e2 : Expr} {mo m m2 : ME} {apos pos : Pos}
@[simp] def eGet2 (mo m m2 : ME) : ME := fun env P => mo env fun x e1 => match x with
  | .dct ks vs => m e1 fun y e2 => m2 e2 fun z e3 => isK y = true ∧ (∀ k ∈ ks, isK k = true) ∧ P (match dLook (ks.zip vs) y with | some d => d | none => z) e3
  | _ => False
theorem ev_get2 (hu : X.A.units + 1 < cLine) (hx : EV X Tb o mo) (h : EV X Tb e m) (h2 : EV X Tb e2 m2)
    (hb : attributeBase o "get" X.env (eval o X.env) = eval o X.env := by rfl) (hl : (apos.endLine == pos.line) = true := by rfl) (he : starEach [e, e2] X.env = (false, eval e X.env) :: starEach [e2] X.env := by rfl) (he2 : starEach [e2] X.env = (false, eval e2 X.env) :: starEach [] X.env := by rfl)
    (hfew : ((backTo pos (starEach [e, e2] X.env)).all (fun x => !x.1) && (backToKw pos (keywordEach [] X.env)).all (fun x => x.1.isSome) && decide ([e, e2].length + ([] : List Keyword).length + (if ([] : List Keyword).isEmpty then 0 else 1) < 30)) = true := by rfl)
    (hpl : (backTo pos (starEach [e2] X.env)).any (·.1) = false := by rfl) :
    EV X Tb (.Call (.Attribute o "get" apos) [e, e2] [] pos) (eGet2 mo m m2) := by
  obtain ⟨to, po, h0⟩ := hx.ex
  obtain ⟨t, pe, h⟩ := h.ex
  obtain ⟨t2, pe2, h2⟩ := h2.ex
  refine ⟨_, pe_bm PySem.F.plainAttrs_dict PySem.F.slot_dict_get PySem.F.type_dict_get (DO.mt_getX hu) po (pa_cons pe (pa_cons pe2 pa_nil he2) he) hb hfew hl he hpl, fun W Oc H0 O H σ env Q P F hm hq => ?_⟩
  refine h0 W Oc H0 O H σ env _ _ F hm fun H1 v d e1 F1 s1 r1 q1 => ?_
  obtain ⟨ks, vs, rfl⟩ : ∃ ks vs, d = .dct ks vs := by
    cases d with
    | dct ks vs => exact ⟨ks, vs, rfl⟩
    | _ => exact False.elim q1
  refine ⟨?_, ?_⟩
  · obtain ⟨a, rfl, nO, ⟨m, e, _, _⟩ | ⟨m, e, _, _⟩⟩ := id r1
    · exact .inr (.inr (.inl ⟨rfl, .inl ⟨_, e⟩⟩))
    · exact .inr (.inr (.inl ⟨rfl, .inr ⟨_, e⟩⟩))
  refine h W Oc H0 O H1 σ e1 _ _ F1 q1 fun H2 v2 d2 e2 F2 s2 r2 q2 => ?_
  refine h2 W Oc H0 O H2 σ e2 _ _ F2 q2 fun H3 v3 d3 e3 F3 s3 r3 ⟨g1, g2, q3⟩ => ?_
  obtain ⟨a, o, rfl, g, hh⟩ := get_rep g1 g2 (Rep.stab (s2.trans s3) r1) (Rep.stab s3 r2)
  refine ⟨a, v2, v3, o, rfl, rfl, g, ?_⟩
  rcases hh with ⟨e1, rfl⟩ | ⟨d, w, e1, rfl, rw1⟩
  · rw [e1] at q3
    exact hq H3 _ _ e3 F3 (s1.trans (s2.trans s3)) r3 q3
  · rw [e1] at q3
    exact hq H3 _ _ e3 F3 (s1.trans (s2.trans s3)) rw1 q3
end
/-! ### a def's own dict -/
section
variable {X : Cx} {Tb : Addr → Prop} {i : Nat} {x : Str} {e k : Expr} {m mk : ME} {pos pos' dpos tpos p : Pos}
/-- x = {} -/
@[simp] def sSetDic (i : Nat) : MS := fun E env => E.nx (env.set i (some (.dic [])))
theorem sv_setDic (hN : X.N.Nodup) (hi : X.N[i]? = some x) (hx : Loc X.env.scope x) (hs : swapsWith (.Dict [] [] dpos) (some (.Name x pos')) pos.line X.env = pure false := by rfl)
    (hf : X.fn x = true ∨ X.env.scope.names.lookup x = some .local := by first | exact .inl rfl | exact .inr rfl | assumption) : SV X Tb (.Assign [.Name x pos'] (.Dict [] [] dpos) pos) (sSetDic i) := by
  refine ⟨_, ps_set hN hi hx pe_dnewK hs hf, fun W Oc H0 O H σ env D E F hm kk => ?_⟩
  intro p hp
  have F1 := F.same (same_upd (o := .dK []) hp)
  have F1' := F.addO hp (Keep.same F.g (same_upd (o := .dK []) hp)) ⟨_, upd_same, .inr (.inl ⟨_, rfl⟩)⟩
  refine kk.nx _ _ _ _ (F1.putM F1' (F.nO hp) i (s' := .dic []) rfl fun hi => ⟨p, List.getElem?_set_self (F.len ▸ hi), .inr rfl, F.new0 hp, .inl ⟨[], upd_same, rfl, rfl⟩⟩) (fun a o e n => ⟨same_upd hp a o e, fun z => z.elim n fun z => by rw [z, hp] at e; cases e⟩) hm
/-- x[k] = v, x an own dict -/
@[simp] def sPutD (i : Nat) (k v : ME) : MS := fun E env => v env fun d e1 => match e1[i]? with
  | some (some (.dic _)) => k e1 fun j e2 => match e2[i]? with
    | some (some (.dic kvs)) => isK j = true ∧ (∀ p ∈ kvs, isK p.1 = true) ∧ kvs.length ≤ 1000000 ∧ E.nx (e2.set i (some (.dic (dPut kvs j d))))
    | _ => False
  | _ => False
theorem sv_putD (hu : X.A.units + 1 < cLine) (hx : PE X (.Name x p) (tVar i)) (hk : EV X Tb k mk) (h : EV X Tb e m) (ha : ∀ v, assign (.Subscript (.Name x p) k tpos) X.env v = (do
      let ov ← holding [v] (eval (.Name x p) X.env)
      let iv ← holding [v, ov] (eval k X.env)
      standAt tpos
      holding [v, ov, iv] (setItem ov iv v)
      release [v, ov, iv] []) := by intro _; rfl)
    (hs : swapsWithSole [.Subscript (.Name x p) k tpos] e pos.line X.env = pure false := by rfl) (hw : swappedStores [.Subscript (.Name x p) k tpos] e X.env = pure none := by rfl)
    (h1 : (assignEach [.Subscript (.Name x p) k tpos] X.env).map (·.2) = [assign (.Subscript (.Name x p) k tpos) X.env] := by rfl) : SV X Tb (.Assign [.Subscript (.Name x p) k tpos] e pos) (sPutD i mk m) := by
  obtain ⟨t, pe, h⟩ := h.ex
  obtain ⟨tk, pk, hk⟩ := hk.ex
  refine ⟨_, ps_asg pe (pg_sub hx pk (DO.set_X hu) ha) hs hw h1, fun W Oc H0 O H σ env D E F hm kk => ?_⟩
  refine h W Oc H0 O H σ env _ _ F hm fun H1 v d e1 F1 s1 r1 q1 => ?_
  split at q1
  · rename_i kv0 e0
    obtain ⟨a, e1', oa, a0, _⟩ := F1.dic e0
    refine ⟨_, e1', hk W Oc H0 O H1 σ e1 _ _ F1 q1 fun H2 j dj e2 F2 s2 r2 q2 => ?_⟩
    split at q2
    · rename_i kvs e3
      obtain ⟨a', e4, oa1, _, dr⟩ := F2.dic e3
      rw [e1'] at e4
      cases e4
      obtain ⟨g1, g2, g3, q3⟩ := q2
      obtain ⟨kk0, hk0⟩ := isK_some g1
      obtain ⟨rfl, rfl⟩ := key_rep hk0 r2
      have rd := Rep.stab s2 r1
      rcases dr with ⟨mm, eh, ek, rr⟩ | ⟨mm, eh, ek, rr⟩
      · obtain ⟨p1, p2⟩ := put_rep (k := kk0) rd mm kvs ek rr
        have hl : mm.length < sizeLine := by
          have e5 := congrArg List.length ek
          rw [List.length_map, List.length_map] at e5
          rw [← e5]
          exact Nat.lt_of_le_of_lt g3 (by decide)
        refine ⟨a, _, rfl, .inl (DPut.k eh hl), ?_⟩
        obtain ⟨F3, s3⟩ := F2.updM (s' := .dic (dPut kvs (keyD kk0) d)) (o' := .dK (putK mm kk0 v)) e3 rfl rfl e1' oa1 a0 (.inr (.inl ⟨_, rfl⟩)) fun st => ⟨a, e1', oa1, a0, .inl ⟨_, upd_same, p1, Reps.stab st p2⟩⟩
        exact kk.nx O _ _ _ F3 (Mv.of (s1.trans (s2.trans s3))) q3
      · obtain ⟨z1, rfl⟩ := allK ek fun y hy => by obtain ⟨p, hp, rfl⟩ := List.mem_map.mp hy; exact g2 p hp
        obtain rfl : kvs = [] := List.map_eq_nil_iff.mp z1
        refine ⟨a, _, rfl, .inr (.inr ⟨kk0, eh, rfl, rfl⟩), ?_⟩
        obtain ⟨F3, s3⟩ := F2.updM (s' := .dic (dPut [] (keyD kk0) d)) (o' := .dK [(kk0, v)]) e3 rfl rfl e1' oa1 a0 (.inr (.inl ⟨_, rfl⟩)) fun st => ⟨a, e1', oa1, a0, .inl ⟨_, upd_same, rfl, Reps.stab st (Reps.one rd)⟩⟩
        exact kk.nx O _ _ _ F3 (Mv.of (s1.trans (s2.trans s3))) q3
    · exact False.elim q2
  · exact False.elim q1
/-- from here on a value -/
@[simp] def sFrzD (i : Nat) (m : MS) : MS := fun E env => match env[i]? with
  | some (some (.dic kvs)) => m E (env.set i (some (.val (.dct (kvs.map (·.1)) (kvs.map (·.2))))))
  | _ => m E env
theorem bv_frzD {st : List Stmt} {mb : MS} (i : Nat) (h : BV X Tb st mb) : BV X Tb st (sFrzD i mb) := by
  obtain ⟨t, p, h⟩ := h.ex
  refine ⟨t, p, fun W Oc H0 O H σ env D E F hm k => ?_⟩
  unfold sFrzD at hm
  split at hm
  · rename_i ds e0
    obtain ⟨O', F', mv⟩ := F.freezeD e0
    exact h W Oc H0 O' H σ _ D E F' hm (k.mv mv)
  · exact h W Oc H0 O H σ env D E F hm k
end
end DL

set_option Elab.async false
set_option linter.all false
set_option autoImplicit false
set_option maxRecDepth 100000
set_option maxHeartbeats 1000000
/-! GD2: dicts whose keys are tuples, over data. -/
namespace DL
open PySem PySem.Spec PyProof.Rows L2
mutual
theorem nk_py : ∀ (d : D) (k : NestedKey), nkD d = some k → GD.nkP (toPy d) = some k
  | .non, _, h => by simp only [nkD] at h; simp only [toPy, GD.nkP]; exact h
  | .bl _, _, h => by simp only [nkD] at h; simp only [toPy, GD.nkP]; exact h
  | .int _, _, h => by simp only [nkD] at h; simp only [toPy, GD.nkP]; exact h
  | .tup xs, k, h => by
    simp only [nkD] at h
    obtain ⟨ks, e1, rfl⟩ := Option.map_eq_some_iff.mp h
    simp only [toPy, GD.nkP, nk_pys xs ks e1]
    rfl
  | .str _, _, h => by simp [nkD] at h
  | .lst _, _, h => by simp [nkD] at h
  | .dct _ _, _, h => by simp [nkD] at h
  | .pool, _, h => by simp [nkD] at h
  | .frz _, _, h => by simp [nkD] at h
  | .rnk _, _, h => by simp [nkD] at h
  | .gd _ _, _, h => by simp [nkD] at h
theorem nk_pys : ∀ (xs : List D) (ks : List NestedKey), nkDs xs = some ks → GD.nkPs (xs.map toPy) = some ks
  | [], _, h => by simp only [nkDs] at h; simp only [List.map_nil, GD.nkPs]; exact h
  | x :: xs, ks, h => by
    simp only [nkDs] at h
    split at h
    · rename_i k ks' e1 e2
      cases h
      simp only [List.map_cons, GD.nkPs, nk_py x k e1, nk_pys xs ks' e2]
    · cases h
end
/-- a key: a tuple of ints, bools, None, tuples, to depth 8 -/
def isG : D → Bool
  | .tup xs => plain 8 (.tup xs) && (match nkD (.tup xs) with | some k => decide (k.depth ≤ 8) | none => false)
  | _ => false
def gLook (kvs : List (D × D)) (y : D) : Option D := (kvs.find? fun p => decide (nkD p.1 = nkD y)).map (·.2)
def gPut (kvs : List (D × D)) (y d : D) : List (D × D) :=
  if (gLook kvs y).isSome = true then kvs.map (fun p => if nkD p.1 = nkD y then (p.1, d) else p) else kvs ++ [(y, d)]
section
variable {K : PySem.W.Frag} {Pl O : Addr → Prop} {H : Hp}
theorem isG_of {y : D} (h : isG y = true) : ∃ k, nkD y = some k ∧ k.depth ≤ 8 ∧ plain 8 y = true ∧ ∃ xs, y = .tup xs := by
  cases y with
  | tup xs =>
    unfold isG at h
    rw [Bool.and_eq_true] at h
    obtain ⟨h1, h2⟩ := h
    split at h2
    · rename_i k e
      exact ⟨k, e, of_decide_eq_true h2, h1, xs, rfl⟩
    · cases h2
  | _ => cases h
theorem keyH_of {y : D} {v : V} {k : NestedKey} (hk : nkD y = some k) (hd : k.depth ≤ 8) (hp : plain 8 y = true) (r : Rep K Pl O H y v) : GD.KeyH K H v k := ⟨toPy y, dp_of 8 y v hp r, nk_py y k hk, hd⟩
theorem gkeys_of : ∀ {ks : List D} {m : GD.GM}, KD ks m → Reps K Pl O H ks (m.map fun p => V.ref p.2.1) → GD.GKeys K H m
  | ks, [], _, _ => fun p hp => by cases hp
  | [], _ :: _, kd, _ => by have := kd.nk; simp at this
  | x :: ks, p :: m, kd, r => by
    obtain ⟨v, us, e, r1, r2⟩ := r
    rw [List.map_cons] at e
    injection e with e1 e2
    subst e1; subst e2
    have hnk := kd.nk
    rw [List.map_cons, List.map_cons] at hnk
    injection hnk with n1 n2
    have hpl := plains_cons.mp kd.pl
    have ih := gkeys_of (ks := ks) (m := m) ⟨n2, hpl.2, fun q hq => kd.dp q (List.mem_cons_of_mem _ hq)⟩ r2
    intro q hq
    rcases List.mem_cons.mp hq with rfl | hq
    · exact keyH_of n1 (kd.dp q (List.mem_cons_self ..)) hpl.1 r1
    · exact ih q hq
/-- what the dict holds at a key -/
theorem glook_rep {y : D} {k : NestedKey} (hy : nkD y = some k) : ∀ {ks vs : List D} {m : GD.GM}, KD ks m → Reps K Pl O H vs (m.map fun p => p.2.2) →
    (gLook (ks.zip vs) y = none ∧ GD.atM m k = none) ∨ ∃ d v, gLook (ks.zip vs) y = some d ∧ GD.atM m k = some v ∧ Rep K Pl O H d v
  | [], vs, [], _, r => .inl ⟨by cases vs <;> rfl, rfl⟩
  | [], _, _ :: _, kd, _ => by have := kd.nk; simp at this
  | _ :: _, _, [], kd, _ => by have := kd.nk; simp at this
  | x :: ks, vs, p :: m, kd, r => by
    cases vs with
    | nil => cases r
    | cons d vs =>
      obtain ⟨v, us, e, r1, r2⟩ := r
      rw [List.map_cons] at e
      injection e with e1 e2
      subst e1; subst e2
      have hnk := kd.nk
      rw [List.map_cons, List.map_cons] at hnk
      injection hnk with n1 n2
      have hpl := plains_cons.mp kd.pl
      have ih := glook_rep hy (ks := ks) (vs := vs) (m := m) ⟨n2, hpl.2, fun q hq => kd.dp q (List.mem_cons_of_mem _ hq)⟩ r2
      unfold gLook GD.atM at ih ⊢
      rw [List.zip_cons_cons, List.find?_cons, List.find?_cons]
      by_cases h : p.1 = k
      · have h1 : decide (nkD x = nkD y) = true := decide_eq_true (by rw [n1, hy, h])
        simp only [h1, decide_eq_true h]
        exact .inr ⟨d, p.2.2, rfl, rfl, r1⟩
      · have h1 : decide (nkD x = nkD y) = false := decide_eq_false fun z => h (by rw [n1, hy] at z; exact Option.some.inj z)
        simp only [h1, decide_eq_false h]
        exact ih
theorem gput_map {y d : D} {k : NestedKey} {v : V} (hy : nkD y = some k) (rd : Rep K Pl O H d v) : ∀ {kvs : List (D × D)} {m : GD.GM}, (kvs.map (·.1)).map nkD = m.map (fun p => some p.1) → Reps K Pl O H (kvs.map (·.2)) (m.map fun p => p.2.2) →
    (kvs.map fun p => if nkD p.1 = nkD y then (p.1, d) else p).map (·.1) = kvs.map (·.1) ∧ (m.map fun x => if x.1 = k then (x.1, x.2.1, v) else x).map (fun p => (p.1, p.2.1)) = m.map (fun p => (p.1, p.2.1)) ∧
      Reps K Pl O H ((kvs.map fun p => if nkD p.1 = nkD y then (p.1, d) else p).map (·.2)) ((m.map fun x => if x.1 = k then (x.1, x.2.1, v) else x).map fun p => p.2.2)
  | [], [], _, r => ⟨rfl, rfl, r⟩
  | [], _ :: _, e, _ => by simp at e
  | _ :: _, [], e, _ => by simp at e
  | q :: kvs, p :: m, e, r => by
    simp only [List.map_cons] at e r ⊢
    injection e with e1 e2
    obtain ⟨w, us, eu, r1, r2⟩ := r
    injection eu with u1 u2
    subst u1; subst u2
    obtain ⟨i1, i2, i3⟩ := gput_map hy rd (kvs := kvs) (m := m) e2 r2
    rw [e1, hy]
    by_cases h : p.1 = k
    · rw [if_pos (by rw [h]), if_pos h]
      exact ⟨by rw [← i1, hy], by rw [i2], v, _, rfl, rd, by rw [hy] at i3; exact i3⟩
    · rw [if_neg (fun z => h (Option.some.inj z)), if_neg h]
      exact ⟨by rw [← i1, hy], by rw [i2], p.2.2, _, rfl, r1, by rw [hy] at i3; exact i3⟩
theorem gput_rep {y d : D} {k : NestedKey} {v : V} {b : Addr} (hy : nkD y = some k) (hd : k.depth ≤ 8) (hp : plain 8 y = true) (ry : Rep K Pl O H y (.ref b)) (rd : Rep K Pl O H d v) {kvs : List (D × D)} {m : GD.GM} (kd : KD (kvs.map (·.1)) m)
    (r1 : Reps K Pl O H (kvs.map (·.1)) (m.map fun p => V.ref p.2.1)) (r2 : Reps K Pl O H (kvs.map (·.2)) (m.map fun p => p.2.2)) :
    KD ((gPut kvs y d).map (·.1)) (GD.putM m k b v) ∧ Reps K Pl O H ((gPut kvs y d).map (·.1)) ((GD.putM m k b v).map fun p => V.ref p.2.1) ∧ Reps K Pl O H ((gPut kvs y d).map (·.2)) ((GD.putM m k b v).map fun p => p.2.2) := by
  have hz : (kvs.map (·.1)).zip (kvs.map (·.2)) = kvs := by
    rw [List.zip_map, List.zip_eq_zipWith, List.zipWith_self, List.map_map]
    exact (List.map_congr_left (g := id) fun p _ => rfl).trans (List.map_id _)
  have hs : (gLook kvs y).isSome = (GD.atM m k).isSome := by
    rcases glook_rep hy kd r2 with ⟨h1, h2⟩ | ⟨d', v', h1, h2, _⟩
    · rw [hz] at h1; rw [h1, h2]; rfl
    · rw [hz] at h1; rw [h1, h2]; rfl
  unfold gPut GD.putM
  rw [hs]
  split
  · obtain ⟨i1, i2, i3⟩ := gput_map hy rd kd.nk r2
    have e1 : (m.map fun x => if x.1 = k then (x.1, x.2.1, v) else x).map (fun p => V.ref p.2.1) = m.map fun p => V.ref p.2.1 := by
      have := congrArg (List.map fun q : NestedKey × Addr => V.ref q.2) i2
      simpa [List.map_map, Function.comp_def] using this
    have e2 : (m.map fun x => if x.1 = k then (x.1, x.2.1, v) else x).map (fun p => some p.1) = m.map fun p => some p.1 := by
      have := congrArg (List.map fun q : NestedKey × Addr => some q.1) i2
      simpa [List.map_map, Function.comp_def] using this
    rw [i1, e1]
    refine ⟨⟨by rw [e2]; exact kd.nk, kd.pl, fun p hp => ?_⟩, r1, i3⟩
    obtain ⟨x, hx, rfl⟩ := List.mem_map.mp hp
    split
    · exact kd.dp x hx
    · exact kd.dp x hx
  · simp only [List.map_append, List.map_cons, List.map_nil]
    refine ⟨⟨by rw [List.map_append, kd.nk, List.map_append]; simp [hy], ?_, fun p hp => ?_⟩, r1.app (Reps.one ry), r2.app (Reps.one rd)⟩
    · have key : ∀ (xs : List D), plains 8 xs = true → plains 8 (xs ++ [y]) = true := by
        intro xs
        induction xs with
        | nil => intro _; rw [List.nil_append, plains_cons]; exact ⟨hp, rfl⟩
        | cons x xs ih =>
          intro h
          rw [plains_cons] at h
          rw [List.cons_append, plains_cons]
          exact ⟨h.1, ih h.2⟩
      exact key _ kd.pl
    · rcases List.mem_append.mp hp with hp | hp
      · exact kd.dp p hp
      · rw [List.mem_singleton.mp hp]; exact hd
end
end DL

set_option Elab.async false
set_option linter.all false
set_option autoImplicit false
set_option maxRecDepth 100000
/-! DGk: tuples of naturals as keys. -/
namespace DL
open PySem
theorem nkDs_dN : ∀ r : List Nat, nkDs (r.map dN) = some (r.map fun x : Nat => NestedKey.num (x : Int))
  | [] => by simp [nkDs]
  | x :: r => by simp [nkDs, nkD, nkDs_dN r]
theorem nkD_tN (r : List Nat) : nkD (tN r) = some (.tup (r.map fun x : Nat => NestedKey.num (x : Int))) := by
  show nkD (.tup (r.map dN)) = _
  simp only [nkD, nkDs_dN, Option.map_some]
theorem nums_inj : ∀ {a b : List Nat}, (a.map fun x : Nat => NestedKey.num (x : Int)) = (b.map fun x : Nat => NestedKey.num (x : Int)) → a = b
  | [], [], _ => rfl
  | [], _ :: _, h => by cases h
  | _ :: _, [], h => by cases h
  | x :: a, y :: b, h => by
    rw [List.map_cons, List.map_cons] at h
    injection h with h1 h2
    injection h1 with h1
    rw [Int.ofNat.inj h1, nums_inj h2]
theorem depth_nums : ∀ r : List Nat, NestedKey.depthAll (r.map fun x : Nat => NestedKey.num (x : Int)) = 0
  | [] => rfl
  | x :: r => by simp [NestedKey.depthAll, NestedKey.depth, depth_nums r]
theorem plains_nums (n : Nat) : ∀ r : List Nat, plains n (r.map dN) = true
  | [] => by simp [plains]
  | x :: r => by rw [List.map_cons, plains_cons]; exact ⟨by cases n <;> rfl, plains_nums n r⟩
end DL

set_option Elab.async false
set_option linter.all false
set_option autoImplicit false
set_option maxRecDepth 100000
set_option maxHeartbeats 1000000
/-! GD3: the rules of dicts whose keys are tuples. -/
namespace DL
open PySem PySem.Spec PyProof.Rows L2
theorem u20 {k : Nat} {A : Around} (r : Room k A) : A.units + 20 < cLine := by have := r.un; omega
section
variable {X : Cx} {Tb : Addr → Prop}
/-- d[k] -/
@[simp] def oIxG : O2 := fun x y P => match x with
  | .gd ks vs => isG y = true ∧ ∃ d, gLook (ks.zip vs) y = some d ∧ P d
  | _ => False
theorem tup_ref {K : PySem.W.Frag} {Pl O : Addr → Prop} {H : Hp} {xs : List D} {v : V} (r : Rep K Pl O H (.tup xs) v) : ∃ b, v = .ref b := by
  obtain ⟨b, _, e, _⟩ := r
  exact ⟨b, e⟩
theorem ix_Gd (hu : X.A.units + 20 < cLine) : ∃ r, IxR X r ∧ ∀ (Pl O : Addr → Prop) (H : Hp) (x y : D) (v u : V) (Q : VK) (P : D → Prop), (∀ p, H p = none → ¬ O p) → Rep X.K Pl O H x v → Rep X.K Pl O H y u → oIxG x y P → (∀ H' z d, Same H H' → Rep X.K Pl O H' d z → P d → Q z H') → r v u H Q := by
  refine ⟨_, GD.ix_G hu, fun Pl O H x y v u Q P hO rx ry h hq => ?_⟩
  cases x <;> first | exact False.elim h | skip
  obtain ⟨h1, d, h3, h4⟩ := h
  obtain ⟨k, hk, hd, hp, xs, ey⟩ := isG_of h1
  obtain ⟨b, rfl⟩ : ∃ b, u = .ref b := by rw [ey] at ry; exact tup_ref ry
  obtain ⟨a, o, m, rfl, q, nO, kd, r1, r2⟩ := rx
  rcases glook_rep hk kd r2 with ⟨g, _⟩ | ⟨d', v', g1, g2, g3⟩
  · rw [h3] at g; cases g
  · rw [h3] at g1
    cases g1
    exact ⟨a, m, k, b, v', rfl, rfl, .frz o q, gkeys_of kd r1, keyH_of hk hd hp ry, g2, hq H v' d (Same.refl _) g3 h4⟩
@[simp] def oInG : O2 := fun y x P => match x with
  | .gd ks vs => isG y = true ∧ P (.bl (gLook (ks.zip vs) y).isSome)
  | _ => False
theorem ov_inG (hu : X.A.units + 20 < cLine) : OV X (compareOp .In) oInG := by
  refine ⟨_, GD.op_inG hu, fun Pl O H x y v u Q P hO rx ry h hq => ?_⟩
  cases y <;> first | exact False.elim h | skip
  obtain ⟨h1, h⟩ := h
  obtain ⟨k, hk, hd, hp, xs, ex⟩ := isG_of h1
  obtain ⟨b, rfl⟩ : ∃ b, v = .ref b := by rw [ex] at rx; exact tup_ref rx
  obtain ⟨a, o, m, rfl, q, nO, kd, r1, r2⟩ := ry
  refine ⟨a, m, k, b, rfl, rfl, .frz o q, gkeys_of kd r1, keyH_of hk hd hp rx, hq H _ (.bl _) (Same.refl _) rfl ?_⟩
  rcases glook_rep hk kd r2 with ⟨g1, g2⟩ | ⟨d', v', g1, g2, g3⟩
  · rw [g2]; simpa [g1] using h
  · rw [g2]; simpa [g1] using h
/-- for k in d -/
@[simp] def iGd (m : ME) : MI := fun env P => m env fun x e1 => match x with
  | .gd ks _ => P ks e1
  | _ => False
theorem iv_gd {l tg : Expr} {m : ME} (h : EV X Tb l m) : IV X Tb tg l (iGd m) := by
  obtain ⟨t, pe, h⟩ := h.ex
  refine ⟨_, GD.pi_gkeys pe, fun W Oc H0 O H σ env R P F hm hq => ?_⟩
  refine h W Oc H0 O H σ env _ _ F hm fun H1 v d e1 F1 s1 r1 q1 => ?_
  cases d with
  | gd ks vs =>
    obtain ⟨a, o, m, rfl, q, nO, kd, r1, r2⟩ := r1
    have hl : ks.length = m.length := by have := congrArg List.length kd.nk; simpa using this
    refine ⟨a, o, m, rfl, q, hq H1 _ ks e1 F1 s1 (fun O2 H2 mv hO i => ⟨fun d hd => ?_, fun hle => ?_⟩) q1⟩
    · obtain ⟨q2, n2⟩ := mv a _ q nO
      have hi : i < m.length := by rw [← hl]; exact (List.getElem?_eq_some_iff.mp hd).1
      refine ⟨⟨q2, hi⟩, fun x H3 ⟨eH, p, hp, ex⟩ => ?_⟩
      subst eH ex
      obtain ⟨v, e2, r3⟩ := r1.get hd
      rw [List.getElem?_map, hp] at e2
      cases e2
      exact ⟨Same.refl _, Rep.mv mv r3⟩
    · exact ⟨(mv a _ q nO).1, by rw [← hl]; exact hle⟩
  | _ => exact False.elim q1
end
/-! ### a def's own dict -/
section
variable {X : Cx} {Tb : Addr → Prop} {i : Nat} {x : Str} {e k : Expr} {m mk : ME} {pos pos' dpos tpos p : Pos}
@[simp] def sSetGd (i : Nat) : MS := fun E env => E.nx (env.set i (some (.gdi [])))
theorem sv_setGd (hN : X.N.Nodup) (hi : X.N[i]? = some x) (hx : Loc X.env.scope x) (hs : swapsWith (.Dict [] [] dpos) (some (.Name x pos')) pos.line X.env = pure false := by rfl)
    (hf : X.fn x = true ∨ X.env.scope.names.lookup x = some .local := by first | exact .inl rfl | exact .inr rfl | assumption) : SV X Tb (.Assign [.Name x pos'] (.Dict [] [] dpos) pos) (sSetGd i) := by
  refine ⟨_, ps_set hN hi hx pe_dnewK hs hf, fun W Oc H0 O H σ env D E F hm kk => ?_⟩
  intro p hp
  have F1 := F.same (same_upd (o := .dK []) hp)
  have F1' := F.addO hp (Keep.same F.g (same_upd (o := .dK []) hp)) ⟨_, upd_same, .inr (.inl ⟨_, rfl⟩)⟩
  refine kk.nx _ _ _ _ (F1.putM F1' (F.nO hp) i (s' := .gdi []) rfl fun hi => ⟨p, List.getElem?_set_self (F.len ▸ hi), .inr rfl, F.new0 hp, [], .inr ⟨upd_same, rfl⟩, ⟨rfl, rfl, by simp⟩, rfl, rfl⟩) (fun a o e n => ⟨same_upd hp a o e, fun z => z.elim n fun z => by rw [z, hp] at e; cases e⟩) hm
/-- x[k] = v, x an own dict -/
@[simp] def sPutG (i : Nat) (k v : ME) : MS := fun E env => v env fun d e1 => match e1[i]? with
  | some (some (.gdi _)) => k e1 fun j e2 => match e2[i]? with
    | some (some (.gdi kvs)) => isG j = true ∧ kvs.length ≤ 1000000 ∧ E.nx (e2.set i (some (.gdi (gPut kvs j d))))
    | _ => False
  | _ => False
theorem FR.gdi {K : PySem.W.Frag} {W : Wd K Tb} {Oc O : Addr → Prop} {H0 H : Hp} {σ : St} {env : DEnv} (F : FR W Oc H0 O H σ env) {i : Nat} {kvs : List (D × D)} (e : env[i]? = some (some (.gdi kvs))) : ∃ a, σ[i]? = some (some (.ref a)) ∧ O a ∧ H0 a = none ∧ GdR W O H a (kvs.map (·.1)) (kvs.map (·.2)) := F.slot i _ e
theorem sv_putG (hu : X.A.units + 20 < cLine) (hx : PE X (.Name x p) (tVar i)) (hk : EV X Tb k mk) (h : EV X Tb e m) (ha : ∀ v, assign (.Subscript (.Name x p) k tpos) X.env v = (do
      let ov ← holding [v] (eval (.Name x p) X.env)
      let iv ← holding [v, ov] (eval k X.env)
      standAt tpos
      holding [v, ov, iv] (setItem ov iv v)
      release [v, ov, iv] []) := by intro _; rfl)
    (hs : swapsWithSole [.Subscript (.Name x p) k tpos] e pos.line X.env = pure false := by rfl) (hw : swappedStores [.Subscript (.Name x p) k tpos] e X.env = pure none := by rfl)
    (h1 : (assignEach [.Subscript (.Name x p) k tpos] X.env).map (·.2) = [assign (.Subscript (.Name x p) k tpos) X.env] := by rfl) : SV X Tb (.Assign [.Subscript (.Name x p) k tpos] e pos) (sPutG i mk m) := by
  obtain ⟨t, pe, h⟩ := h.ex
  obtain ⟨tk, pk, hk⟩ := hk.ex
  refine ⟨_, ps_asg pe (pg_sub hx pk (GD.set_G hu) ha) hs hw h1, fun W Oc H0 O H σ env D E F hm kk => ?_⟩
  refine h W Oc H0 O H σ env _ _ F hm fun H1 v d e1 F1 s1 r1 q1 => ?_
  split at q1
  · rename_i kv0 e0
    obtain ⟨a, e1', oa, a0, _⟩ := F1.gdi e0
    refine ⟨_, e1', hk W Oc H0 O H1 σ e1 _ _ F1 q1 fun H2 j dj e2 F2 s2 r2 q2 => ?_⟩
    split at q2
    · rename_i kvs e3
      obtain ⟨a', e4, oa1, _, mm, gp, kd, rk, rv⟩ := F2.gdi e3
      rw [e1'] at e4
      cases e4
      obtain ⟨g1, g3, q3⟩ := q2
      obtain ⟨kk0, hk0, hd0, hp0, xs, ej⟩ := isG_of g1
      obtain ⟨b, rfl⟩ : ∃ b, j = .ref b := by rw [ej] at r2; exact tup_ref r2
      have rd := Rep.stab s2 r1
      have hl : mm.length < sizeLine := by
        have e5 := congrArg List.length kd.nk
        rw [List.length_map, List.length_map, List.length_map] at e5
        rw [← e5]
        exact Nat.lt_of_le_of_lt g3 (by decide)
      obtain ⟨p1, p2, p3⟩ := gput_rep hk0 hd0 hp0 r2 rd kd rk rv
      refine ⟨a, mm, kk0, b, rfl, rfl, gp, gkeys_of kd rk, keyH_of hk0 hd0 hp0 r2, hl, ?_⟩
      obtain ⟨F3, s3⟩ := F2.updM (s' := .gdi (gPut kvs dj d)) (o' := GD.gO a (GD.putM mm kk0 b v)) e3 rfl rfl e1' oa1 a0 (.inr (.inr (.inr ⟨_, _, rfl⟩))) fun st => ⟨a, e1', oa1, a0, _, .inl upd_same, p1, Reps.stab st p2, Reps.stab st p3⟩
      exact kk.nx O _ _ _ F3 (Mv.of (s1.trans (s2.trans s3))) q3
    · exact False.elim q2
  · exact False.elim q1
theorem FR.lockG {K : PySem.W.Frag} {W : Wd K Tb} {Oc O : Addr → Prop} {H0 H : Hp} {σ : St} {env : DEnv} (F : FR W Oc H0 O H σ env) {i : Nat} {kvs : List (D × D)} (e : env[i]? = some (some (.gdi kvs))) (hne : kvs ≠ []) :
    ∃ a m, H a = some (GD.gO a m) ∧ ∀ od, ∃ O', FR W Oc H0 O' (upd H a (.frz od (GD.gO a m))) σ (env.set i (some (.val (.gd (kvs.map (·.1)) (kvs.map (·.2)))))) ∧ Mv O H O' (upd H a (.frz od (GD.gO a m))) := by
  obtain ⟨a, e1, oa, a0, m, gp, kd, rk, rv⟩ := F.gdi e
  have hm : m ≠ [] := fun z => by
    have e5 := congrArg List.length kd.nk
    rw [z] at e5
    simp at e5
    exact hne e5
  have ha : H a = some (GD.gO a m) := gp.elim id fun z => absurd z.2 hm
  refine ⟨a, m, ha, fun od => ⟨fun b => O b ∧ b ≠ a, ?_⟩⟩
  have hi : i < env.length := (List.getElem?_eq_some_iff.mp e).1
  have hZ : ¬ W.Z a := F.ownZ a0
  have mv : Mv O H (fun b => O b ∧ b ≠ a) (upd H a (.frz od (GD.gO a m))) := fun c o h n => ⟨by rw [upd_ne fun (z : c = a) => n (by rw [z]; exact oa)]; exact h, fun z => n z.1⟩
  have ne : ∀ {j : Nat} {s : Sl} {b : Addr}, i ≠ j → env[j]? = some (some s) → s.mine = true → σ[j]? = some (some (.ref b)) → b ≠ a := fun hj h ms e2 z => F.dist i _ _ _ a hj e h rfl ms e1 (by rw [← z]; exact e2)
  refine ⟨⟨W.loc H _ (fun b z => upd_ne fun q => hZ (q ▸ z)) F.g, fun b o h n => ?_, F.zc, F.dc, fun b h => ⟨F.oc b h, fun z => ?_⟩, fun b h => ?_, by rw [List.length_set]; exact F.len, fun j s h => ?_, fun j k s1 s2 b hjk h1 h2 m3 m4 h3 h4 => ?_⟩, mv⟩
  · rw [upd_ne fun z => by rw [z, a0] at h; cases h]; exact F.kept b o h n
  · obtain ⟨o, q⟩ := F.dc b h
    rw [z, a0] at q; cases q
  · rcases F.od b h.1 with z | ⟨z, o, q, mq⟩
    · exact .inl z
    · exact .inr ⟨z, o, by rw [upd_ne h.2]; exact q, mq⟩
  · by_cases hj : i = j
    · subst hj
      rw [List.getElem?_set_self hi] at h
      cases h
      exact ⟨_, e1, a, od, m, rfl, upd_same, fun z => z.2 rfl, kd, Reps.mv mv rk, Reps.mv mv rv⟩
    · rw [List.getElem?_set_ne hj] at h
      have q := F.slot j s h
      cases s with
      | val d' => obtain ⟨v', e2, r'⟩ := q; exact ⟨v', e2, Rep.mv mv r'⟩
      | own fs =>
        obtain ⟨b, us, e2, h1, h2, h3, r2⟩ := q
        have hb := ne hj h rfl e2
        exact ⟨b, us, e2, ⟨h1, hb⟩, h2, by rw [upd_ne hb]; exact h3, Reps.mv mv r2⟩
      | dic fs =>
        obtain ⟨b, e2, h1, h2, r2⟩ := q
        have hb := ne hj h rfl e2
        exact ⟨b, e2, ⟨h1, hb⟩, h2, r2.mvK (fun o z => by rw [upd_ne hb]; exact z) mv⟩
      | gdi fs =>
        obtain ⟨b, e2, h1, h2, r2⟩ := q
        have hb := ne hj h rfl e2
        exact ⟨b, e2, ⟨h1, hb⟩, h2, r2.mvK (fun o z => by rw [upd_ne hb]; exact z) mv⟩
  · have z : ∀ {j : Nat} {s : Sl}, (env.set i (some (.val (.gd (kvs.map (·.1)) (kvs.map (·.2))))))[j]? = some (some s) → s.mine = true → env[j]? = some (some s) := fun {j s} h m => by
      by_cases hj : i = j
      · subst hj; rw [List.getElem?_set_self hi] at h; cases h; cases m
      · rw [List.getElem?_set_ne hj] at h; exact h
    exact F.dist j k _ _ b hjk (z h1 m3) (z h2 m4) m3 m4 h3 h4
/-- from here on a value, locked; it is not empty -/
@[simp] def sLockG (i : Nat) (m : MS) : MS := fun E env => match env[i]? with
  | some (some (.gdi kvs)) => kvs ≠ [] ∧ m E (env.set i (some (.val (.gd (kvs.map (·.1)) (kvs.map (·.2))))))
  | _ => False
theorem bv_lockG {st : List Stmt} {mb : MS} (i : Nat) (h : BV X Tb st mb) : BV X Tb st (sLockG i mb) := by
  obtain ⟨t, p, h⟩ := h.ex
  refine ⟨_, GD.pss_ghost p, fun W Oc H0 O H σ env D E F hm k => ?_⟩
  unfold sLockG at hm
  split at hm
  · rename_i kvs e0
    obtain ⟨hne, hm⟩ := hm
    obtain ⟨a, m, ha, hF⟩ := F.lockG e0 hne
    refine ⟨a, _, ha, trivial, fun od => ?_⟩
    obtain ⟨O', F', mv⟩ := hF od
    exact h W Oc H0 O' _ σ _ D E F' hm (k.mv mv)
  · exact False.elim hm
end
end DL

set_option Elab.async false
set_option linter.all false
set_option autoImplicit false
set_option maxRecDepth 100000
set_option maxHeartbeats 1000000
/-! GD4: d.get(k, z) of a def's own dict whose keys are tuples. -/
namespace GD
open PySem PySem.Spec PyProof.Rows L2
section
variable {X : Cx} {pins : List (Addr × Obj)} {σ : L2.St} {H : Hp} {s : Shared} {a b : Addr} {m : GM} {k : NestedKey} {A : Around} {E : Value → Shared → Prop}
theorem g_putDict (I : Inv X pins σ H s) (g : GPut H a m) (hk : GKeys X.K H m) : (a == sysModules) = false ∧ ∃ xs, RelX m xs ∧ s.heap.DictOfH (nestedKind X.prog X.w) a xs := by
  rcases g with e | ⟨e, rfl⟩
  · obtain ⟨z, _, xs, r, dd⟩ := g_dict I (.own e) hk
    exact ⟨z, xs, r, dd⟩
  · obtain ⟨z, hd, vs, rel, o, es, ep, h1, h2, h3, h4, h5, h6⟩ := dk_of I.hok e
    cases rel
    have h0 : es.toList = [] := by
      generalize es.toList = l at h5
      cases h5; rfl
    exact ⟨hd, [], .nil, o, es, ep, h1, h2, h3, h0, by simp, by simp⟩
theorem g_obj (I : Inv X pins σ H s) (g : GPut H a m) : ∃ o, s.heap.get? a = some o ∧ o.ExactDict := by
  rcases g with e | ⟨e, rfl⟩
  · obtain ⟨_, _, _, _, o, _, _, h1, h2, _⟩ := g_of I (.own e)
    exact ⟨o, h1, h2⟩
  · obtain ⟨_, _, _, _, o, _, _, h1, h2, _⟩ := dk_of I.hok e
    exact ⟨o, h1, h2⟩
theorem g_get2P {d : V} {u : Value} {Q : Value → Shared → Prop} (hu : A.units + 20 < cLine) (I : Inv X pins σ H s) (g : GPut H a m) (hk : GKeys X.K H m) (hy : KeyH X.K H (.ref b) k) (rd : RelV d u) (h : ∀ w' s', Inv X pins σ H s' → RelV ((atM m k).getD d) w' → Q w' s') :
    wpAny (model X.prog X.w) A (call (.builtin "dict.get") [.ref a, .ref b, u]) Q E s := by
  obtain ⟨z, xs, r, dd⟩ := g_putDict I g hk
  refine call_meetsIn PySem.F.slot_dict_get dd.typeIs PySem.F.entry_dict_get (PySem.F.args_dict_get_3 _ _ _) (meetsH_dict_get_default (nestedKind X.prog X.w) a b z u) ⟨show A.in1.units + 8 < cLine from by show A.units + 1 + 8 < cLine; omega, k, xs, key_is I hy, dd, h _ _ (I.tok _) ?_⟩
  exact (r.val k).getD rd
end
def tGGet2 (K : PySem.W.Frag) (td ty tx : TE) : TE := fun σ H Q => td σ H fun x H1 => ∃ a m0, x = .ref a ∧ GPut H1 a m0 ∧ ty σ H1 fun y H2 => tx σ H2 fun z H3 => ∃ m k b, y = .ref b ∧ GPut H3 a m ∧ GKeys K H3 m ∧ KeyH K H3 (.ref b) k ∧ Q ((atM m k).getD z) H3
section
variable {X : Cx} {o e f : Expr} {apos cpos : Pos} {td ty tx : TE}
theorem pe_gget2 (hu : X.A.units + 20 < cLine) (ho : PE X o td) (he : PE X e ty) (hf : PE X f tx) (m : M2 X o "get" apos e f cpos) : PE X (.Call (.Attribute o "get" apos) [e, f] [] cpos) (tGGet2 X.K td ty tx) := by
  refine ⟨fun pins s σ H Q I h => ?_⟩
  refine wpAny_Call_method m.base m.few m.line PySem.F.plainAttrs_dict PySem.F.slot_dict_get PySem.F.type_dict_get (thn (ho.run pins s σ H _ I h) fun u s1 ⟨x, H1, I1, rx, a, m0, ex, d, q1⟩ => ?_)
  subst ex
  obtain rfl : u = Value.ref a := rx
  obtain ⟨ob, h1, h2⟩ := g_obj I1 d
  refine ⟨⟨ob, h1, h2.1⟩, fun b eb => by cases eb; exact ⟨ob, h1, h2.2.1⟩, ?_⟩
  rw [m.trees]
  refine Calls.callWith_builtin rfl (Calls.evalArgs_plain (Calls.spliced_cons (thn (he.run pins s1 σ H1 _ I1 q1) fun iv s2 ⟨y, H2, I2, ry, q2⟩ =>
    Calls.spliced_cons (thn (hf.run pins s2 σ H2 _ I2 q2) fun fv s3 ⟨z, H3, I3, rz, mm, k, b, ey, g, hk, hy, q3⟩ => Calls.spliced_nil ?_))))
  subst ey
  obtain rfl : iv = Value.ref b := ry
  exact g_get2P hu I3 g hk hy rz fun w' s4 I4 rw' => ⟨_, H3, I4, rw', q3⟩
end
end GD
namespace DL
open PySem PySem.Spec PyProof.Rows L2
/-- x.get(k, z), x an own dict -/
@[simp] def eOGetG (i : Nat) (m m2 : ME) : ME := fun env P => match env[i]? with
  | some (some (.gdi _)) => m env fun y e1 => m2 e1 fun z e2 => match e2[i]? with
    | some (some (.gdi kvs)) => isG y = true ∧ P (match gLook kvs y with | some d => d | none => z) e2
    | _ => False
  | _ => False
section
variable {X : Cx} {Tb : Addr → Prop}
theorem ev_ogetG {i : Nat} {x : Str} {e e2 : Expr} {m m2 : ME} {apos pos px : Pos} (hu : X.A.units + 20 < cLine) (hx : PE X (.Name x px) (tVar i)) (h : EV X Tb e m) (h2 : EV X Tb e2 m2) (hm2 : M2 X (.Name x px) "get" apos e e2 pos) :
    EV X Tb (.Call (.Attribute (.Name x px) "get" apos) [e, e2] [] pos) (eOGetG i m m2) := by
  obtain ⟨t, pe, h⟩ := h.ex
  obtain ⟨t2, pe2, h2⟩ := h2.ex
  refine ⟨_, GD.pe_gget2 hu hx pe pe2 hm2, fun W Oc H0 O H σ env Q P F hm hq => ?_⟩
  unfold eOGetG at hm
  split at hm
  · rename_i kv0 e0
    obtain ⟨a, ea, oa, a0, m0, gp0, _⟩ := F.gdi e0
    refine ⟨_, ea, a, m0, rfl, gp0, ?_⟩
    refine h W Oc H0 O H σ env _ _ F hm fun H2 v2 d2 e2 F2 s2 r2 q2 => ?_
    refine h2 W Oc H0 O H2 σ e2 _ _ F2 q2 fun H3 v3 d3 e3 F3 s3 r3 q3 => ?_
    split at q3
    · rename_i kvs e4
      obtain ⟨g1, q3⟩ := q3
      obtain ⟨a', ea', _, _, mm, gp, kd, rk, rv⟩ := F3.gdi e4
      rw [ea] at ea'
      cases ea'
      obtain ⟨k, hk, hd, hp, xs, ey⟩ := isG_of g1
      have r2' := Rep.stab s3 r2
      obtain ⟨b, rfl⟩ : ∃ b, v2 = .ref b := by rw [ey] at r2'; exact tup_ref r2'
      refine ⟨mm, k, b, rfl, gp, gkeys_of kd rk, keyH_of hk hd hp r2', ?_⟩
      have ez : (kvs.map (·.1)).zip (kvs.map (·.2)) = kvs := by
        rw [List.zip_map', List.map_id']
      rcases glook_rep hk kd rv with ⟨e5, e6⟩ | ⟨d, w, e5, e6, rw1⟩
      · rw [ez] at e5
        rw [e5] at q3
        rw [e6]
        exact hq H3 _ _ e3 F3 (s2.trans s3) r3 q3
      · rw [ez] at e5
        rw [e5] at q3
        rw [e6]
        exact hq H3 _ d e3 F3 (s2.trans s3) rw1 q3
    · exact False.elim q3
  · exact False.elim hm
end
end DL

set_option Elab.async false
set_option linter.all false
set_option autoImplicit false
set_option maxRecDepth 100000
set_option maxHeartbeats 1000000
/-! GD5: many new pairs at once (for sorted(d.items())). -/
namespace GD
open PySem PySem.Spec PyProof.Rows L2
def layH (H : Hp) : List Addr → List (V × V) → Hp
  | a :: as, p :: ps => layH (upd H a (.tup [p.1, p.2])) as ps
  | _, _ => H
theorem layH_other {b : Addr} : ∀ (as : List Addr) (ps : List (V × V)) (H : Hp), b ∉ as → layH H as ps b = H b
  | a :: as, p :: ps, H, h => by
    rw [layH, layH_other as ps _ (fun z => h (List.mem_cons_of_mem _ z)), upd_ne (fun z => h (by rw [z]; exact List.mem_cons_self ..))]
  | [], _, _, _ => by simp [layH]
  | _ :: _, [], _, _ => by simp [layH]
theorem layH_at : ∀ (as : List Addr) (ps : List (V × V)) (H : Hp), as.Nodup → ∀ {j : Nat} {a : Addr} {p : V × V}, as[j]? = some a → ps[j]? = some p → layH H as ps a = some (.tup [p.1, p.2])
  | a :: as, p :: ps, H, nd, 0, _, _, e1, e2 => by
    cases e1; cases e2
    rw [layH, layH_other as ps _ (List.nodup_cons.mp nd).1, upd_same]
  | a :: as, p :: ps, H, nd, j + 1, b, q, e1, e2 => by
    rw [layH]
    exact layH_at as ps _ (List.nodup_cons.mp nd).2 e1 e2
  | [], _, _, _, _, _, _, e1, _ => by cases e1
  | _ :: _, [], _, _, _, _, _, _, e2 => by cases e2
section
variable {X : Cx} {pins : List (Addr × Obj)} {σ : L2.St} {H : Hp} {s : Shared}
theorem lay_inv (I : Inv X pins σ H s) {h' : Heap} {tk : Nat} (k : ∀ b u, s.heap.get? b = some u → h'.get? b = some u) {as : List Addr} {ps : List (V × V)} (nd : as.Nodup) (hl : as.length = ps.length) (ha : ∀ a ∈ as, s.heap.objs.size ≤ a)
    (ht : ∀ (j : Nat) (a : Addr) (p : V × V), as[j]? = some a → ps[j]? = some p → ∃ u w, h'.get? a = some { cls := .type "tuple", data := .seq #[u, w] } ∧ RelV p.1 u ∧ RelV p.2 w) : Inv X pins σ (layH H as ps) { s with heap := h', toks := tk } := by
  have fr : ∀ b u, s.heap.get? b = some u → b ∉ as := fun b u e z => absurd (Heap.lt_size e) (Nat.not_lt.mpr (ha b z))
  have fh : ∀ b u, H b = some u → b ∉ as := fun b u e z => by have := I.hok.fresh (ha b z); rw [this] at e; cases e
  refine I.un ⟨fun b o q _ _ _ => k b o q, fun b o q _ _ _ => ⟨o.slots, k b o q⟩, fun b o q n _ => by rw [layH_other as ps H (fr b o q)]; exact n, fun b o q _ => ⟨o, k b o q⟩, fun b xs q => by rw [layH_other as ps H (fh b _ q)]; exact q,
    fun b o u q => by rw [layH_other as ps H (fh b _ q)]; exact q, fun b ps' q => ⟨#[], by rw [layH_other as ps H (fh b _ q), q]; simp⟩⟩ ?_
  intro b u e
  by_cases hb : b ∈ as
  · obtain ⟨j, hj, rfl⟩ := List.getElem_of_mem hb
    have hjp : j < ps.length := by omega
    have e2 := layH_at as ps H nd (List.getElem?_eq_getElem hj) (List.getElem?_eq_getElem hjp)
    rw [e2] at e
    cases e
    obtain ⟨u, w, h1, r1, r2⟩ := ht j _ _ (List.getElem?_eq_getElem hj) (List.getElem?_eq_getElem hjp)
    refine ⟨?_, [u, w], .cons r1 (.cons r2 .nil), ⟨_, h1, rfl, _, rfl⟩⟩
    have := sizeLine_eq
    simp
    omega
  · rw [layH_other as ps H hb] at e
    exact (I.hok b u e).stay (fun c v _ q => k c v q) (fun c q => by rw [layH_other as ps H (fh c _ q)]; exact q) fun c xs q => by rw [layH_other as ps H (fh c _ q)]; exact q
end
mutual
/-- what data is read off stands -/
theorem reads_lt {h : Heap} : ∀ (d : PyData) (v : Value) (as : List Addr), PySem.W.alike d d = true → Reads h v d as → ∀ a ∈ as, a < h.objs.size
  | .none, _, _, _, r => by cases r; intro a ha; cases ha
  | .bool _, _, _, _, r => by cases r; intro a ha; cases ha
  | .int _, _, _, _, r => by cases r; intro a ha; cases ha
  | .str _, _, _, _, r => by cases r; intro a ha; cases ha
  | .list ds, _, _, hal, r => by
    cases r with
    | list h1 h2 h3 h4 =>
      intro a ha
      rcases List.mem_cons.mp ha with rfl | ha
      · exact Heap.lt_size h1
      · exact readsAll_lt ds _ _ (by simpa [PySem.W.alike] using hal) h4 a ha
  | .tuple ds, _, _, hal, r => by
    cases r with
    | tuple h1 h2 h3 h4 => exact readsAll_lt ds _ _ (by simpa [PySem.W.alike] using hal) h4
  | .dict _, _, _, hal, _ => absurd hal (by simp [PySem.W.alike])
theorem readsAll_lt {h : Heap} : ∀ (ds : List PyData) (vs : List Value) (as : List Addr), PySem.W.alikeAll ds ds = true → ReadsAll h vs ds as → ∀ a ∈ as, a < h.objs.size
  | [], _, _, _, r => by cases r; intro a ha; cases ha
  | d :: ds, _, _, hal, r => by
    cases r with
    | cons r1 r2 =>
      have hal : PySem.W.alike d d = true ∧ PySem.W.alikeAll ds ds = true := by simpa [PySem.W.alikeAll] using hal
      intro a ha
      rcases List.mem_append.mp ha with ha | ha
      · exact reads_lt d _ _ hal.1 r1 a ha
      · exact readsAll_lt ds _ _ hal.2 r2 a ha
end
end GD

set_option Elab.async false
set_option linter.all false
set_option autoImplicit false
set_option maxRecDepth 100000
set_option maxHeartbeats 1000000
/-! GD6: sorted(d.items()), d a def's own dict whose keys are tuples. -/
namespace DL
open PySem PySem.Spec PyProof.Rows L2
def gItems (ks vs : List D) : List D := (ks.zip vs).map fun q => D.tup [q.1, q.2]
section
variable {X : Cx} {pins : List (Addr × Obj)} {σ : L2.St} {H : Hp} {s : Shared} {a : Addr} {m : GD.GM}
theorem g_raw (I : Inv X pins σ H s) (g : GD.GPut H a m) : (a == sysModules) = false ∧ m.length ≤ sizeLine ∧ ∃ (es : Array DictEntry) (ep : Nat), s.heap.DictRaw a es ep ∧ es.size = m.length ∧
    ∀ (j : Nat) (hj : j < es.size) (p : NestedKey × Addr × V), m[j]? = some p → es[j].key = .ref p.2.1 ∧ RelV p.2.2 es[j].val := by
  rcases g with e | ⟨e, rfl⟩
  · obtain ⟨z, hl, xs, r, o, es, ep, h1, h2, h3, h4, h5⟩ := GD.g_of I (.own e)
    have he := h4 X.prog X.w
    have l1 : es.size = xs.length := size_of_entries he
    have l2 : m.length = xs.length := Paired.length r
    refine ⟨z, hl, es, ep, ⟨o, h1, h2, h3⟩, by omega, fun j hj p hp => ?_⟩
    obtain ⟨b, hb, e1, e2, e3⟩ := paired_get r hp
    have q := entry_at he j
    rw [hb, Array.getElem?_eq_getElem hj] at q
    injection q with q
    rw [q]
    exact ⟨by rw [e2]; rfl, e3⟩
  · obtain ⟨z, hd, vs, rel, o, es, ep, h1, h2, h3, h4, h5, h6⟩ := dk_of I.hok e
    cases rel
    have h0 : es.toList = [] := by
      generalize es.toList = l at h5
      cases h5; rfl
    have h00 : es.size = 0 := by rw [← Array.length_toList, h0]; rfl
    exact ⟨hd, Nat.zero_le _, es, ep, ⟨o, h1, h2, h3⟩, h00, fun j hj p hp => by cases hp⟩
end
theorem items_reps {K : PySem.W.Frag} {Pl O : Addr → Prop} {H' : Hp} : ∀ (ks vs : List D) (m : GD.GM) (as : List Addr), as.length = m.length → (∀ a ∈ as, ¬ O a) → (∀ (j : Nat) (a : Addr) (p : NestedKey × Addr × V), as[j]? = some a → m[j]? = some p → H' a = some (.tup [V.ref p.2.1, p.2.2])) →
    Reps K Pl O H' ks (m.map fun p => V.ref p.2.1) → Reps K Pl O H' vs (m.map fun p => p.2.2) → Reps K Pl O H' (gItems ks vs) (as.map V.ref)
  | ks, vs, [], as, hl, _, _, r1, r2 => by
    have : as = [] := List.eq_nil_of_length_eq_zero hl
    subst this
    cases ks with
    | nil => rfl
    | cons _ _ => obtain ⟨_, _, e, _⟩ := r1; cases e
  | ks, vs, p :: m, [], hl, _, _, _, _ => by simp at hl
  | [], vs, p :: m, a :: as, _, _, _, r1, _ => by cases (show _ = _ from r1)
  | k :: ks, [], p :: m, a :: as, _, _, _, _, r2 => by cases (show _ = _ from r2)
  | k :: ks, v :: vs, p :: m, a :: as, hl, nO, hat, r1, r2 => by
    obtain ⟨kv, ku, e1, a1, a2⟩ := r1
    obtain ⟨vv, vu, e2, b1, b2⟩ := r2
    rw [List.map_cons] at e1 e2
    injection e1 with e1 e1'
    injection e2 with e2 e2'
    subst e1; subst e1'; subst e2; subst e2'
    have ih := items_reps ks vs m as (by simpa using hl) (fun x hx => nO x (List.mem_cons_of_mem _ hx)) (fun j x q h1 h2 => hat (j + 1) x q h1 h2) a2 b2
    exact ⟨V.ref a, _, rfl, ⟨a, [V.ref p.2.1, p.2.2], rfl, .inl (hat 0 a p rfl rfl), nO a (List.mem_cons_self ..), ⟨_, _, rfl, a1, _, _, rfl, b1, rfl⟩⟩, ih⟩
theorem refs_vals : ∀ as : List Addr, Vals (as.map V.ref) (as.map Value.ref)
  | [] => .nil
  | _ :: as => .cons rfl (refs_vals as)
def tSortIt (K : PySem.W.Frag) (td : TE) : TE := fun σ H Q => td σ H fun x H1 => ∃ (a : Addr) (m : GD.GM) (Pl O : Addr → Prop) (ks vs : List D), x = .ref a ∧ GD.GPut H1 a m ∧ Reps K Pl O H1 ks (m.map fun p => V.ref p.2.1) ∧ Reps K Pl O H1 vs (m.map fun p => p.2.2) ∧
  (∀ p, H1 p = none → ¬ O p) ∧ plains 8 (gItems ks vs) = true ∧ PySem.W.AllAlike ((gItems ks vs).map toPy) ∧ PySem.W.Sortable ((gItems ks vs).map toPy) ∧
  ∀ (H2 : Hp) (p : Addr) (ws : List V), Same H1 H2 → H2 p = none → Reps K Pl O H2 ((gItems ks vs).mergeSort leD) ws → Q (.ref p) (upd H2 p (.lst ws))
section
variable {X : Cx} {e : Expr} {td : TE} {p q apos cpos pos : Pos} {k : Nat}
theorem pe_sortIt (hr : Room k X.A) (hg : Gl X "sorted") (hm : X.mg "sorted" = none) (he : PE X e td) (hbase : attributeBase e "items" X.env (eval e X.env) = eval e X.env := by rfl) (hline : (apos.endLine == cpos.line) = true := by rfl)
    (na : starEach [.Call (.Attribute e "items" apos) [] [] cpos] X.env = (false, eval (.Call (.Attribute e "items" apos) [] [] cpos) X.env) :: starEach [] X.env := by rfl) :
    PE X (.Call (.Name "sorted" p) [.Call (.Attribute e "items" apos) [] [] cpos] [] pos) (tSortIt X.K td) := by
  refine ⟨fun pins s σ H Q I h => ?_⟩
  refine Call_ (ld_blt I hg hm (show bootBuiltins "sorted" = some (.builtin "sorted") by decide +kernel) ?_)
  refine PyProof.Rows.callWith_builtin1 (PyProof.Rows.args_cons ?_ na) na rfl
  refine wpAny_Call_method (T := "dict") (id := "dict.items") hbase rfl hline PySem.F.plainAttrs_dict PySem.F.slot_dict_items PySem.F.type_dict_items (thn (he.run pins s σ H _ I h) fun u s1 ⟨x, H1, I1, rx, a, m, Pl, O, ks, vs, ex, g, rk, rv, nO, hp, hal, hk, qq⟩ => ?_)
  subst ex
  obtain rfl : u = Value.ref a := rx
  obtain ⟨z, hml, es, ep, raw, hsz, hent⟩ := g_raw I1 g
  obtain ⟨ob, ho, hx, hdt⟩ := id raw
  refine ⟨⟨ob, ho, hx.1⟩, fun b eb => by cases eb; exact ⟨ob, ho, hx.2.1⟩, ?_⟩
  have hun := hr.un
  have fin : wpAny (model X.prog X.w) X.A (call (.builtin "sorted") [.ref s1.heap.objs.size]) (EP X pins σ Q) X.xe { s1 with heap := s1.heap.push { cls := .type "dict_items", data := .fields #[.ref a] } } := by
    have I2 : Inv X pins σ H1 { s1 with heap := s1.heap.push { cls := .type "dict_items", data := .fields #[.ref a] } } := I1.kept (t' := s1.toks) fun b ob q => Heap.get?_push_of_some _ q
    refine PySem.Calls.call_function_entry kind_sorted plain_sorted entry_sorted (args_sorted1 _) ?_
    unfold Builtin.«sorted»
    refine wpAny_bind (m := checkCount "sorted" 1 1 _) (wpAny_pure ?_)
    refine wpAny_bind (PySem.W.dil_collect (A := X.A.in1) (d := a) (es := es) (ep := ep) hr.hd ⟨_, Heap.get?_push_size _ rfl, rfl, rfl⟩ (raw.at fun o e => Heap.get?_push_of_some _ e) (by omega) fun h' tk as hkp hl hG => ?_)
    have hle : ∀ x ∈ as, s1.heap.objs.size ≤ x := fun x hx => by
      have this : (s1.heap.push { cls := .type "dict_items", data := .fields #[.ref a] }).objs.size < x := hG.above x hx
      rw [Heap.size_push] at this
      omega
    have nd : as.Nodup := List.nodup_iff_pairwise_ne.mpr (hG.rise.imp fun h => Nat.ne_of_lt h)
    have hkp' : ∀ b u, s1.heap.get? b = some u → h'.get? b = some u := fun b u e => hkp b u (Heap.get?_push_of_some _ e)
    have hln : as.length = m.length := by omega
    have hlp : as.length = (m.map fun p : NestedKey × Addr × V => (V.ref p.2.1, p.2.2)).length := by rw [List.length_map]; exact hln
    have I3 : Inv X pins σ (GD.layH H1 as (m.map fun p => (V.ref p.2.1, p.2.2))) { s1 with heap := h', toks := tk } := GD.lay_inv I1 hkp' nd hlp hle fun j x p e1 e2 => by
      obtain ⟨hj, e3⟩ := hG.pairs j x e1
      rw [List.getElem?_map] at e2
      obtain ⟨p0, e4, rfl⟩ := Option.map_eq_some_iff.mp e2
      obtain ⟨k1, k2⟩ := hent j hj p0 e4
      exact ⟨_, _, e3, by rw [k1]; rfl, k2⟩
    have nin : ∀ (b : Addr) (o : HO), H1 b = some o → b ∉ as := fun b o e zz => by
      have := I1.hok.fresh (hle b zz)
      rw [this] at e
      cases e
    have sm : Same H1 (GD.layH H1 as (m.map fun p => (V.ref p.2.1, p.2.2))) := fun b o e => by
      rw [GD.layH_other as _ H1 (nin b o e)]
      exact e
    have st : Stab O H1 (GD.layH H1 as (m.map fun p => (V.ref p.2.1, p.2.2))) := fun b o e _ => sm b o e
    have hat : ∀ (j : Nat) (x : Addr) (p : NestedKey × Addr × V), as[j]? = some x → m[j]? = some p → GD.layH H1 as (m.map fun p => (V.ref p.2.1, p.2.2)) x = some (.tup [V.ref p.2.1, p.2.2]) := fun j x p e1 e2 =>
      GD.layH_at as _ H1 nd (p := (V.ref p.2.1, p.2.2)) e1 (by rw [List.getElem?_map, e2]; rfl)
    have rit := items_reps ks vs m as hln (fun x hx => nO x (I1.hok.fresh (hle x hx))) hat (Reps.stab st rk) (Reps.stab st rv)
    generalize GD.layH H1 as (m.map fun p => (V.ref p.2.1, p.2.2)) = H2 at I3 sm st rit
    have hv : Vals (as.map V.ref) (as.map Value.ref) := refs_vals as
    have each := each_of rit hv
    have hlen : (gItems ks vs).length ≤ sizeLine := by rw [← each.length, List.length_map]; omega
    refine wpAny_bind (wpAny_newList ?_ (by rw [List.length_map]; omega))
    have I4 : Inv X pins σ H2 { s1 with heap := h'.push { cls := .type "list", data := .seq (as.map Value.ref).toArray }, toks := tk } := I3.kept (t' := tk) fun b o q => Heap.get?_push_of_some _ q
    refine wpAny_bind (wpAny_holding (wpAny_mono (Q := fun _ s' => EP X pins σ Q (.ref h'.objs.size) s') ?_ (fun _ s' x => wpAny_pure ⟨_, rfl, x⟩) fun _ _ e => e))
    refine PySem.W.list_sort_data (A := X.A.in1) (s := { s1 with heap := h'.push { cls := .type "list", data := .seq (as.map Value.ref).toArray }, toks := tk }) (vs := as.map Value.ref) (R := RDV X.K Pl O H2) (enc := toPy) (bs := gItems ks vs) (n := 0) (Heap.get?_push_size _ rfl) each ?_ hal hk hlen (fun b hb => ?_) fun out hlo hout => ?_
    · refine (PySem.W.each_mem each).mono fun u d ⟨⟨v, a1, a2⟩, hd⟩ => ?_
      obtain ⟨j, hj, rfl⟩ := List.getElem_of_mem hd
      have hpl := plains_at hp (List.getElem?_eq_getElem hj)
      obtain ⟨as2, r⟩ := Dp.reads I3 _ _ _ (dp_of 8 _ _ hpl a2) a1
      refine ⟨as2, PyProof.Rows.Reads.keeps (fun b o e => Heap.get?_push_of_some _ e) r, fun zz => ?_⟩
      have hin : toPy (gItems ks vs)[j] ∈ (gItems ks vs).map toPy := List.mem_map_of_mem hd
      exact absurd (GD.reads_lt _ _ _ (hal _ hin _ hin) r _ zz) (Nat.lt_irrefl _)
    · obtain ⟨j, hj, rfl⟩ := List.getElem_of_mem hb
      have hpl := plains_at hp (List.getElem?_eq_getElem hj)
      have := depth_plain 8 _ (by decide) hpl
      show X.A.units + 1 + 1 + _ < cLine
      omega
    · obtain ⟨ws, w1, w2⟩ := each_back hout
      obtain ⟨e0, he2⟩ := sortedHeap_at (h := h'.push { cls := .type "list", data := .seq (as.map Value.ref).toArray }) (a := h'.objs.size) (vs := as.map Value.ref) (n := 0) (out := out.toArray) (Heap.get?_push_size _ rfl)
      have hn : H2 h'.objs.size = none := I3.hok.fresh (Nat.le_refl _)
      have hwl : ws.length ≤ sizeLine := by rw [w1.length, hlo]; exact hlen
      refine ⟨.ref h'.objs.size, upd H2 h'.objs.size (.lst ws), ?_, rfl, qq H2 _ ws sm hn w2⟩
      exact I3.laid (t' := tk) (fun b u zz => by rw [sortedHeap_old (Nat.ne_of_lt (Heap.lt_size zz)) (by rw [Heap.size_push]; exact Nat.lt_succ_of_lt (Heap.lt_size zz))]; exact Heap.get?_push_of_some _ zz) (Nat.le_refl _) ⟨hwl, out, e0, w1, he2⟩
  show wpAny _ _ (callWith cpos (.builtin "dict.items") [.ref a] [] []) _ X.xe s1
  exact method_meetsIn PySem.F.slot_dict_items PySem.F.entry_dict_items rfl (PySem.evalArgs_none ⟨rfl, ⟨ob, ho, hx.1⟩, PySem.F.args_dict_items_1 _, _, meets_dict_items_raw a z, ⟨es, ep, raw⟩, PyProof.Rows.args_nil fin⟩)
end
/-- sorted(x.items()), x an own dict -/
@[simp] def eSortItG (i : Nat) : ME := fun env P => match env[i]? with
  | some (some (.gdi kvs)) => plains 8 (kvs.map fun p => D.tup [p.1, p.2]) = true ∧ PySem.W.AllAlike ((kvs.map fun p => D.tup [p.1, p.2]).map toPy) ∧ PySem.W.Sortable ((kvs.map fun p => D.tup [p.1, p.2]).map toPy) ∧ P (.lst ((kvs.map fun p => D.tup [p.1, p.2]).mergeSort leD)) env
  | _ => False
section
variable {X : Cx} {Tb : Addr → Prop}
theorem gItems_kvs (kvs : List (D × D)) : gItems (kvs.map (·.1)) (kvs.map (·.2)) = kvs.map fun p => D.tup [p.1, p.2] := by
  unfold gItems
  rw [List.zip_map', List.map_map]
  rfl
theorem ev_sortItG {i : Nat} {x : Str} {k : Nat} {p px apos cpos pos : Pos} (hr : Room k X.A) (hg : Gl X "sorted") (hm : X.mg "sorted" = none) (hx : PE X (.Name x px) (tVar i))
    (hbase : attributeBase (.Name x px) "items" X.env (eval (.Name x px) X.env) = eval (.Name x px) X.env := by rfl) (hline : (apos.endLine == cpos.line) = true := by rfl)
    (na : starEach [.Call (.Attribute (.Name x px) "items" apos) [] [] cpos] X.env = (false, eval (.Call (.Attribute (.Name x px) "items" apos) [] [] cpos) X.env) :: starEach [] X.env := by rfl) :
    EV X Tb (.Call (.Name "sorted" p) [.Call (.Attribute (.Name x px) "items" apos) [] [] cpos] [] pos) (eSortItG i) := by
  refine ⟨_, pe_sortIt hr hg hm hx hbase hline na, fun W Oc H0 O H σ env Q P F hmm hq => ?_⟩
  unfold eSortItG at hmm
  split at hmm
  · rename_i kvs e0
    obtain ⟨a, ea, oa, a0, m, gp, kd, rk, rv⟩ := F.gdi e0
    obtain ⟨h1, h2, h3, h4⟩ := hmm
    rw [← gItems_kvs] at h1 h2 h3 h4
    refine ⟨_, ea, a, m, W.Pl, O, _, _, rfl, gp, rk, rv, fun p hp => F.nO hp, h1, h2, h3, fun H2 p ws sm hp hw => ?_⟩
    have F2 := F.same sm
    exact hq _ _ _ env (F2.same (same_upd hp)) ((Stab.of sm).trans (Stab.of (same_upd hp))) (new_lst F2 hw hp) h4
  · exact False.elim hmm
end
end DL

set_option Elab.async false
set_option linter.all false
set_option autoImplicit false
set_option maxRecDepth 100000
set_option maxHeartbeats 1000000
/-! GD7: dicts whose keys are tuples, in the hand layer: items, values, sums, sorted, locks of empty ones. -/
namespace GD
open PySem PySem.Spec PyProof.Rows L2
section
variable {X : Cx} {pins : List (Addr × Obj)} {σ : L2.St} {H : Hp} {s : Shared} {a : Addr}
/-- an empty dict is of our kind too -/
theorem to_g (I : Inv X pins σ H s) (h : H a = some (.dK [])) : Inv X pins σ (upd H a (gO a [])) s := by
  obtain ⟨z, hd, vs, rel, o, es, ep, h1, h2, h3, h4, h5, h6⟩ := dk_of I.hok h
  cases rel
  have h0 : es.toList = [] := by
    generalize es.toList = l at h5
    cases h5; rfl
  exact I.write (x := a) (e := a) (t' := s.toks) (h' := s.heap) (by rw [h]; trivial) (.inl rfl) (fun b v _ q => q) ⟨o, h1⟩ (g_ok ⟨hd, Nat.zero_le _, [], .nil, o, es, ep, h1, h2, h3, fun _ _ => h0, by simp⟩)
theorem upd_upd {H : Hp} {a : Addr} {x y : HO} : upd (upd H a x) a y = upd H a y := by
  funext b
  by_cases h : b = a
  · subst h; rw [upd_same, upd_same]
  · rw [upd_ne h, upd_ne h, upd_ne h]
theorem lock_g {m : GM} (I : Inv X pins σ H s) (h : H a = some (gO a m) ∨ (H a = some (.dK []) ∧ m = [])) : ∃ od, Inv X pins σ (upd H a (.frz od (gO a m))) s := by
  rcases h with h | ⟨h, rfl⟩
  · exact I.lock h trivial
  · obtain ⟨od, I1⟩ := (to_g I h).lock upd_same trivial
    exact ⟨od, by rw [upd_upd] at I1; exact I1⟩
end
/-- a dict, empty or not, is locked for good -/
def tGhostE (t : TS) : TS := fun D σ H => ∃ d m, (H d = some (gO d m) ∨ (H d = some (.dK []) ∧ m = [])) ∧ ∀ od, t D σ (upd H d (.frz od (gO d m)))
theorem pss_ghostE {X : Cx} {st : List Stmt} {t : TS} (h : PSs X st t) : PSs X st (tGhostE t) := by
  refine ⟨fun pins s σ H D I hw => ?_⟩
  obtain ⟨d, m, hd, hw⟩ := hw
  obtain ⟨od, I1⟩ := lock_g I hd
  exact h.run pins s σ _ _ I1 (hw od)
section
variable {X : Cx} {pins : List (Addr × Obj)} {σ : L2.St} {H : Hp} {s : Shared} {d : Addr} {o : Obj} {m : GM}
theorem g_frz2 (I : Inv X pins σ H s) (h : H d = some (.frz o (gO d m))) : (d == sysModules) = false ∧ m.length ≤ sizeLine ∧ ∃ (es : Array DictEntry) (ep : Nat), s.heap.DictRaw d es ep ∧ o.data = .dict es ep ∧ es.size = m.length ∧
    ∀ (j : Nat) (hj : j < es.size) (p : NestedKey × Addr × V), m[j]? = some p → es[j].key = .ref p.2.1 ∧ RelV p.2.2 es[j].val := by
  obtain ⟨hd, ⟨z, hl, xs, r, o', es, ep, ho, hx, hdt, he, _⟩, _⟩ := I.hok d _ h
  have eo : o' = o := by rw [hd] at ho; exact (Option.some.inj ho).symm
  subst eo
  have he := he X.prog X.w
  have l1 : es.size = xs.length := size_of_entries he
  have l2 : m.length = xs.length := Paired.length r
  refine ⟨z, hl, es, ep, ⟨o', ho, hx, hdt⟩, hdt, by omega, fun j hj p hp => ?_⟩
  obtain ⟨b, hb, e1, e2, e3⟩ := paired_get r hp
  have q := entry_at he j
  rw [hb, Array.getElem?_eq_getElem hj] at q
  injection q with q
  rw [q]
  exact ⟨by rw [e2]; rfl, e3⟩
end
/-- the values of the locked dict at d -/
def ItV (d : Addr) (o : Obj) (m : GM) : It :=
  ⟨fun i H => H d = some (.frz o (gO d m)) ∧ i < m.length, fun i H x H' => H' = H ∧ ∃ p, m[i]? = some p ∧ x = p.2.2, fun i H => H d = some (.frz o (gO d m)) ∧ m.length ≤ i⟩
/-- its pairs, each a new tuple -/
def ItP (d : Addr) (o : Obj) (m : GM) : It :=
  ⟨fun i H => H d = some (.frz o (gO d m)) ∧ i < m.length, fun i H x H' => ∃ T p, m[i]? = some p ∧ x = .ref T ∧ H T = none ∧ H' = upd H T (.tup [.ref p.2.1, p.2.2]), fun i H => H d = some (.frz o (gO d m)) ∧ m.length ≤ i⟩
section
variable {P : Program} {w : World} {K : PySem.W.Frag} {tg : Expr} {d : Addr} {o : Obj} {es : Array DictEntry} {ep : Nat}
theorem turn_gvals {m : GM} (it : Addr) (hod : o.data = .dict es ep) : Turn P w K tg (ItV d o m) [it] it (fun i h => h.IsValIter it d i m.length ep) where
  mem := by simp
  obj := fun i h st b hb => by
    have e : b = it := by simpa using hb
    subst e
    obtain ⟨oi, e, c, dd⟩ := st
    exact ⟨oi, e, fun v z => by rw [dd] at z; cases z⟩
  keep := fun i h h' st k => let ⟨oi, e, r⟩ := st; ⟨oi, k it (by simp) oi e, r⟩
  item := by
    intro X hP hw hK hc i pins s σ H E I hf st hg
    subst hP hw hK
    obtain ⟨hd, hi⟩ := hg
    obtain ⟨f0, f1, f2, f3, f4, f5⟩ := hf it (by simp)
    obtain ⟨hs, hl, es', ep', raw, hdt, hsz, ent⟩ := g_frz2 I hd
    obtain ⟨rfl, rfl⟩ := dict_ep hod hdt
    obtain ⟨p, hp⟩ : ∃ p, m[i]? = some p := ⟨m[i], List.getElem?_eq_getElem hi⟩
    have hi' : i < es'.size := by omega
    obtain ⟨hkey, hval⟩ := ent i hi' p hp
    rw [← hsz] at st
    refine wpAny_pyNext_values_item_raw st raw hi' fun h' st' sb => ?_
    have I1 : Inv X pins σ H { s with heap := h' } := I.turned (t' := s.toks) (fun b ob hb e => (sb.2 b hb).trans e) f0 f1 f3 f4 f5
    obtain ⟨oi, e, c, dd⟩ := id st'
    refine ⟨es'[i].val, rfl, go_of (s := { s with heap := h' }) e c dd (by decide) ⟨p.2.2, H, I1, hval, ⟨rfl, p, hp, rfl⟩, ?_, fun b hb => (hf b hb).1⟩⟩
    show h'.IsValIter it d (i + 1) m.length _
    rw [← hsz]
    exact st'
  done := by
    intro X hP hw hK hc i pins s σ H E I hf st hg
    subst hP hw hK
    obtain ⟨hd, hi⟩ := hg
    obtain ⟨f0, f1, f2, f3, f4, f5⟩ := hf it (by simp)
    obtain ⟨hs, hl, es', ep', raw, hdt, hsz, ent⟩ := g_frz2 I hd
    obtain ⟨rfl, rfl⟩ := dict_ep hod hdt
    rw [← hsz] at st
    exact wpAny_pyNext_values_end_raw (I.ok.hd hc) st raw (by omega) fun h' eb => ⟨rfl, I.turned (t' := s.toks) (fun b ob hb e => eb b ob hb e) f0 f1 f3 f4 f5⟩
  self := fun A i s Q E st h => wpAny_pyIter_valiter st h
theorem turn_gitems {m : GM} {elts : List Expr} {kk : Nat} {tpos : Pos} (it : Addr) (hod : o.data = .dict es ep) :
    Turn P w K (.Tuple elts kk tpos) (ItP d o m) [it] it (fun i h => ∃ ok ov, IsItemIter h it d i m.length ep ok ov) where
  mem := by simp
  obj := fun i h st b hb => by
    have e : b = it := by simpa using hb
    subst e
    obtain ⟨ok, ov, e⟩ := st
    exact ⟨_, e, fun v z => nomatch z⟩
  keep := fun i h h' st k => let ⟨ok, ov, e⟩ := st; ⟨ok, ov, k it (by simp) _ e⟩
  item := by
    intro X hP hw hK hc i pins s σ H E I hf st hg
    subst hP hw hK
    obtain ⟨hd, hi⟩ := hg
    obtain ⟨hs, hl, es', ep', raw, hdt, hsz, ent⟩ := g_frz2 I hd
    obtain ⟨rfl, rfl⟩ := dict_ep hod hdt
    obtain ⟨p, hp⟩ : ∃ p, m[i]? = some p := ⟨m[i], List.getElem?_eq_getElem hi⟩
    have hi' : i < es'.size := by omega
    obtain ⟨hkey, hval⟩ := ent i hi' p hp
    obtain ⟨ok, ov, he⟩ := st
    rw [← hsz] at he
    have hlt : it < s.heap.objs.size := Heap.lt_size he
    refine wpAny_pyNext_items_item_raw he raw hi' fun h' ho hT hz hk => ?_
    refine ⟨_, rfl, wpAny_letOwnedTupleGo_items (s := { s with heap := h' }) ho fun h'' he' sb => ?_⟩
    have hT2 : h''.get? s.heap.objs.size = some { cls := .type "tuple", data := .seq #[es'[i].key, es'[i].val] } := (sb.2 _ (Nat.ne_of_gt hlt)).trans hT
    have new : ObjOk X.prog X.w (upd H s.heap.objs.size (.tup [.ref p.2.1, p.2.2])) h'' s.heap.objs.size (.tup [.ref p.2.1, p.2.2]) :=
      ⟨by show 2 ≤ sizeLine; decide, [es'[i].key, es'[i].val], .cons hkey (.cons hval .nil), ⟨_, hT2, rfl, _, rfl⟩⟩
    have I1 : Inv X pins σ (upd H s.heap.objs.size (.tup [.ref p.2.1, p.2.2])) { s with heap := h'' } :=
      I.turnedNew (t' := s.toks) (ch := [it]) (fun b ob hb e => (sb.2 b (by simpa using hb)).trans (hk b ob (by simpa using hb) e)) hf (Nat.le_refl _) new
    refine ⟨.ref s.heap.objs.size, _, I1, rfl, ⟨_, p, hp, rfl, I.hok.fresh (Nat.le_refl _), rfl⟩, ⟨es'[i].key, es'[i].val, ?_⟩, fun b hb => ?_⟩
    · rw [← hsz]; exact he'
    · have e : b = it := by simpa using hb
      rw [e, upd_ne (Nat.ne_of_lt hlt)]
      exact (hf it (by simp)).1
  done := by
    intro X hP hw hK hc i pins s σ H E I hf st hg
    subst hP hw hK
    obtain ⟨hd, hi⟩ := hg
    obtain ⟨f0, f1, f2, f3, f4, f5⟩ := hf it (by simp)
    obtain ⟨hs, hl, es', ep', raw, hdt, hsz, ent⟩ := g_frz2 I hd
    obtain ⟨rfl, rfl⟩ := dict_ep hod hdt
    obtain ⟨ok, ov, he⟩ := st
    rw [← hsz] at he
    exact wpAny_pyNext_items_end_raw (I.ok.hd hc) he raw (by omega) fun h' eb => ⟨rfl, I.turned (t' := s.toks) (fun b ob hb e => eb b ob hb e) f0 f1 f3 f4 f5⟩
  self := fun A i s Q E st h => let ⟨_, _, e⟩ := st; PySem.W.kcp_self e h
end
def iGVals (td : TE) : TI := fun σ H R => td σ H fun x H1 => ∃ d o m, x = .ref d ∧ H1 d = some (.frz o (gO d m)) ∧ R (ItV d o m) H1
def iGItems (td : TE) : TI := fun σ H R => td σ H fun x H1 => ∃ d o m, x = .ref d ∧ H1 d = some (.frz o (gO d m)) ∧ R (ItP d o m) H1
section
variable {X : Cx} {tg e : Expr} {td : TE} {apos cpos : Pos}
theorem pi_gvals (he : PE X e td) (hbase : attributeBase e "values" X.env (eval e X.env) = eval e X.env := by rfl) (hline : (apos.endLine == cpos.line) = true := by rfl) : PI X tg (.Call (.Attribute e "values" apos) [] [] cpos) (iGVals td) := by
  refine ⟨fun pins s σ H R I h => ?_⟩
  refine wpAny_Call_method (T := "dict") (id := "dict.values") hbase rfl hline F.plainAttrs_dict F.slot_dict_values F.type_dict_values (thn (he.run pins s σ H _ I h) fun u s1 ⟨x, H1, I1, rx, d, o, m, ex, hd, q⟩ => ?_)
  subst ex
  obtain rfl : u = Value.ref d := rx
  obtain ⟨hs, hl, es, ep, raw, hdt, hsz, ent⟩ := g_frz2 I1 hd
  obtain ⟨ob, ho, hx, hdt'⟩ := id raw
  refine ⟨⟨ob, ho, hx.1⟩, fun b eb => by cases eb; exact ⟨ob, ho, hx.2.1⟩, ?_⟩
  have I2 : Inv X pins σ H1 { s1 with heap := s1.heap.push { cls := .type "dict_values", data := .fields #[.ref d] } } := I1.kept (t' := s1.toks) fun b ob q => Heap.get?_push_of_some _ q
  have raw2 := raw.at (h' := s1.heap.push { cls := .type "dict_values", data := .fields #[.ref d] }) fun o e => Heap.get?_push_of_some _ e
  have fin : wpAny (model X.prog X.w) X.A (pyIter (.ref s1.heap.objs.size)) (PIE X pins σ tg R) X.xe { s1 with heap := s1.heap.push { cls := .type "dict_values", data := .fields #[.ref d] } } := by
    refine wpAny_pyIter_values_raw (d := d) ⟨_, Heap.get?_push_size _ rfl, rfl, rfl⟩ raw2 (pi_one (tk := s1.toks) I2 _ (turn_gvals _ hdt) ⟨_, Heap.get?_push_size _ rfl, rfl, ?_⟩ q)
    rw [hsz] <;> rfl
  show wpAny _ _ (callWith cpos (.builtin "dict.values") [.ref d] [] []) _ X.xe s1
  exact method_meetsIn F.slot_dict_values F.entry_dict_values rfl (PySem.evalArgs_none ⟨rfl, ⟨ob, ho, hx.1⟩, F.args_dict_values_1 _, _, meets_dict_values_raw d hs, ⟨es, ep, raw⟩, fin⟩)
theorem pi_gitems {elts : List Expr} {kk : Nat} {tpos : Pos} (he : PE X e td) (hbase : attributeBase e "items" X.env (eval e X.env) = eval e X.env := by rfl) (hline : (apos.endLine == cpos.line) = true := by rfl) :
    PI X (.Tuple elts kk tpos) (.Call (.Attribute e "items" apos) [] [] cpos) (iGItems td) := by
  refine ⟨fun pins s σ H R I h => ?_⟩
  refine wpAny_Call_method (T := "dict") (id := "dict.items") hbase rfl hline F.plainAttrs_dict F.slot_dict_items F.type_dict_items (thn (he.run pins s σ H _ I h) fun u s1 ⟨x, H1, I1, rx, d, o, m, ex, hd, q⟩ => ?_)
  subst ex
  obtain rfl : u = Value.ref d := rx
  obtain ⟨hs, hl, es, ep, raw, hdt, hsz, ent⟩ := g_frz2 I1 hd
  obtain ⟨ob, ho, hx, hdt'⟩ := id raw
  refine ⟨⟨ob, ho, hx.1⟩, fun b eb => by cases eb; exact ⟨ob, ho, hx.2.1⟩, ?_⟩
  have I2 : Inv X pins σ H1 { s1 with heap := s1.heap.push { cls := .type "dict_items", data := .fields #[.ref d] } } := I1.kept (t' := s1.toks) fun b ob q => Heap.get?_push_of_some _ q
  have raw2 := raw.at (h' := s1.heap.push { cls := .type "dict_items", data := .fields #[.ref d] }) fun o e => Heap.get?_push_of_some _ e
  have fin : wpAny (model X.prog X.w) X.A (pyIter (.ref s1.heap.objs.size)) (PIE X pins σ (.Tuple elts kk tpos) R) X.xe { s1 with heap := s1.heap.push { cls := .type "dict_items", data := .fields #[.ref d] } } := by
    refine wpAny_pyIter_items_raw (d := d) ⟨_, Heap.get?_push_size _ rfl, rfl, rfl⟩ raw2 (pi_one (tk := s1.toks) I2 _ (turn_gitems _ hdt) ⟨.none, .none, ?_⟩ q)
    rw [← hsz]
    exact Heap.get?_push_size _ rfl
  show wpAny _ _ (callWith cpos (.builtin "dict.items") [.ref d] [] []) _ X.xe s1
  exact method_meetsIn F.slot_dict_items F.entry_dict_items rfl (PySem.evalArgs_none ⟨rfl, ⟨ob, ho, hx.1⟩, F.args_dict_items_1 _, _, meets_dict_items_raw d hs, ⟨es, ep, raw⟩, fin⟩)
end
end GD

set_option Elab.async false
set_option linter.all false
set_option autoImplicit false
set_option maxRecDepth 100000
set_option maxHeartbeats 1000000
/-! GD8: dicts whose keys are tuples, over data: values, items, sums, sorted, displays, locks of empty ones. -/
namespace DL
open PySem PySem.Spec PyProof.Rows L2
section
variable {X : Cx} {Tb : Addr → Prop} {tg l : Expr} {m : ME} {apos cpos : Pos}
/-- d.values() -/
@[simp] def iGdV (m : ME) : MI := fun env P => m env fun x e1 => match x with
  | .gd _ vs => P vs e1
  | _ => False
/-- d.items() -/
@[simp] def iGdI (m : ME) : MI := fun env P => m env fun x e1 => match x with
  | .gd ks vs => P (gItems ks vs) e1
  | _ => False
theorem kd_len {ks : List D} {m : GD.GM} (kd : KD ks m) : ks.length = m.length := by have := congrArg List.length kd.nk; simpa using this
theorem gItems_len {ks vs : List D} (h : ks.length = vs.length) : (gItems ks vs).length = ks.length := by unfold gItems; simp [h]
theorem gItems_get {ks vs : List D} {i : Nat} {d : D} (h : (gItems ks vs)[i]? = some d) : ∃ k v, ks[i]? = some k ∧ vs[i]? = some v ∧ d = .tup [k, v] := by
  unfold gItems at h
  rw [List.getElem?_map] at h
  obtain ⟨⟨k, v⟩, h1, rfl⟩ := Option.map_eq_some_iff.mp h
  have h2 := List.getElem?_zip_eq_some.mp h1
  exact ⟨k, v, h2.1, h2.2, rfl⟩
theorem iv_gdV (h : EV X Tb l m) (hbase : attributeBase l "values" X.env (eval l X.env) = eval l X.env := by rfl) (hline : (apos.endLine == cpos.line) = true := by rfl) : IV X Tb tg (.Call (.Attribute l "values" apos) [] [] cpos) (iGdV m) := by
  obtain ⟨t, pe, h⟩ := h.ex
  refine ⟨_, GD.pi_gvals pe hbase hline, fun W Oc H0 O H σ env R P F hm hq => ?_⟩
  refine h W Oc H0 O H σ env _ _ F hm fun H1 v d e1 F1 s1 r1 q1 => ?_
  cases d with
  | gd ks vs =>
    obtain ⟨a, o, m, rfl, q, nO, kd, r1, r2⟩ := r1
    have hl : vs.length = m.length := by have := r2.length; rw [List.length_map] at this; exact this.symm
    refine ⟨a, o, m, rfl, q, hq H1 _ vs e1 F1 s1 (fun O2 H2 mv hO i => ⟨fun d hd => ?_, fun hle => ?_⟩) q1⟩
    · obtain ⟨q2, n2⟩ := mv a _ q nO
      have hi : i < m.length := by rw [← hl]; exact (List.getElem?_eq_some_iff.mp hd).1
      refine ⟨⟨q2, hi⟩, fun x H3 ⟨eH, p, hp, ex⟩ => ?_⟩
      subst eH ex
      obtain ⟨v, e2, r3⟩ := r2.get hd
      rw [List.getElem?_map, hp] at e2
      cases e2
      exact ⟨Same.refl _, Rep.mv mv r3⟩
    · exact ⟨(mv a _ q nO).1, by rw [← hl]; exact hle⟩
  | _ => exact False.elim q1
theorem iv_gdI {elts : List Expr} {kk : Nat} {tpos : Pos} (h : EV X Tb l m) (hbase : attributeBase l "items" X.env (eval l X.env) = eval l X.env := by rfl) (hline : (apos.endLine == cpos.line) = true := by rfl) : IV X Tb (.Tuple elts kk tpos) (.Call (.Attribute l "items" apos) [] [] cpos) (iGdI m) := by
  obtain ⟨t, pe, h⟩ := h.ex
  refine ⟨_, GD.pi_gitems pe hbase hline, fun W Oc H0 O H σ env R P F hm hq => ?_⟩
  refine h W Oc H0 O H σ env _ _ F hm fun H1 v d e1 F1 s1 r1 q1 => ?_
  cases d with
  | gd ks vs =>
    obtain ⟨a, o, m, rfl, q, nO, kd, r1, r2⟩ := r1
    have hl := kd_len kd
    have hl2 : vs.length = m.length := by have := r2.length; rw [List.length_map] at this; exact this.symm
    refine ⟨a, o, m, rfl, q, hq H1 _ _ e1 F1 s1 (fun O2 H2 mv hO i => ⟨fun d hd => ?_, fun hle => ?_⟩) q1⟩
    · obtain ⟨q2, n2⟩ := mv a _ q nO
      obtain ⟨k, v, e1, e2, rfl⟩ := gItems_get hd
      have hi : i < m.length := by rw [← hl]; exact (List.getElem?_eq_some_iff.mp e1).1
      refine ⟨⟨q2, hi⟩, fun x H3 ⟨T, p, hp, ex, hT, eH⟩ => ?_⟩
      subst ex eH
      obtain ⟨kv, a1, a2⟩ := r1.get e1
      obtain ⟨vv, b1, b2⟩ := r2.get e2
      rw [List.getElem?_map, hp] at a1 b1
      cases a1; cases b1
      exact ⟨same_upd hT, rep_new_tup hO ⟨_, _, rfl, Rep.mv mv a2, _, _, rfl, Rep.mv mv b2, rfl⟩ hT⟩
    · exact ⟨(mv a _ q nO).1, by rw [gItems_len (by omega)] at hle; omega⟩
  | _ => exact False.elim q1
end
/-! ### locks -/
section
variable {X : Cx} {Tb : Addr → Prop}
theorem FR.lockE {K : PySem.W.Frag} {W : Wd K Tb} {Oc O : Addr → Prop} {H0 H : Hp} {σ : St} {env : DEnv} (F : FR W Oc H0 O H σ env) {i : Nat} {kvs : List (D × D)} (e : env[i]? = some (some (.gdi kvs))) :
    ∃ a m, (H a = some (GD.gO a m) ∨ (H a = some (.dK []) ∧ m = [])) ∧ ∀ od, ∃ O', FR W Oc H0 O' (upd H a (.frz od (GD.gO a m))) σ (env.set i (some (.val (.gd (kvs.map (·.1)) (kvs.map (·.2)))))) ∧ Mv O H O' (upd H a (.frz od (GD.gO a m))) := by
  obtain ⟨a, e1, oa, a0, m, gp, kd, rk, rv⟩ := F.gdi e
  refine ⟨a, m, gp, fun od => ⟨fun b => O b ∧ b ≠ a, ?_⟩⟩
  have hi : i < env.length := (List.getElem?_eq_some_iff.mp e).1
  have hZ : ¬ W.Z a := F.ownZ a0
  have mv : Mv O H (fun b => O b ∧ b ≠ a) (upd H a (.frz od (GD.gO a m))) := fun c o h n => ⟨by rw [upd_ne fun (z : c = a) => n (by rw [z]; exact oa)]; exact h, fun z => n z.1⟩
  have ne : ∀ {j : Nat} {s : Sl} {b : Addr}, i ≠ j → env[j]? = some (some s) → s.mine = true → σ[j]? = some (some (.ref b)) → b ≠ a := fun hj h ms e2 z => F.dist i _ _ _ a hj e h rfl ms e1 (by rw [← z]; exact e2)
  refine ⟨⟨W.loc H _ (fun b z => upd_ne fun q => hZ (q ▸ z)) F.g, fun b o h n => ?_, F.zc, F.dc, fun b h => ⟨F.oc b h, fun z => ?_⟩, fun b h => ?_, by rw [List.length_set]; exact F.len, fun j s h => ?_, fun j k s1 s2 b hjk h1 h2 m3 m4 h3 h4 => ?_⟩, mv⟩
  · rw [upd_ne fun z => by rw [z, a0] at h; cases h]; exact F.kept b o h n
  · obtain ⟨o, q⟩ := F.dc b h
    rw [z, a0] at q; cases q
  · rcases F.od b h.1 with z | ⟨z, o, q, mq⟩
    · exact .inl z
    · exact .inr ⟨z, o, by rw [upd_ne h.2]; exact q, mq⟩
  · by_cases hj : i = j
    · subst hj
      rw [List.getElem?_set_self hi] at h
      cases h
      exact ⟨_, e1, a, od, m, rfl, upd_same, fun z => z.2 rfl, kd, Reps.mv mv rk, Reps.mv mv rv⟩
    · rw [List.getElem?_set_ne hj] at h
      have q := F.slot j s h
      cases s with
      | val d' => obtain ⟨v', e2, r'⟩ := q; exact ⟨v', e2, Rep.mv mv r'⟩
      | own fs =>
        obtain ⟨b, us, e2, h1, h2, h3, r2⟩ := q
        have hb := ne hj h rfl e2
        exact ⟨b, us, e2, ⟨h1, hb⟩, h2, by rw [upd_ne hb]; exact h3, Reps.mv mv r2⟩
      | dic fs =>
        obtain ⟨b, e2, h1, h2, r2⟩ := q
        have hb := ne hj h rfl e2
        exact ⟨b, e2, ⟨h1, hb⟩, h2, r2.mvK (fun o z => by rw [upd_ne hb]; exact z) mv⟩
      | gdi fs =>
        obtain ⟨b, e2, h1, h2, r2⟩ := q
        have hb := ne hj h rfl e2
        exact ⟨b, e2, ⟨h1, hb⟩, h2, r2.mvK (fun o z => by rw [upd_ne hb]; exact z) mv⟩
  · have z : ∀ {j : Nat} {s : Sl}, (env.set i (some (.val (.gd (kvs.map (·.1)) (kvs.map (·.2))))))[j]? = some (some s) → s.mine = true → env[j]? = some (some s) := fun {j s} h m => by
      by_cases hj : i = j
      · subst hj; rw [List.getElem?_set_self hi] at h; cases h; cases m
      · rw [List.getElem?_set_ne hj] at h; exact h
    exact F.dist j k _ _ b hjk (z h1 m3) (z h2 m4) m3 m4 h3 h4
/-- from here on a value, locked; it may be empty -/
@[simp] def sLockE (i : Nat) (m : MS) : MS := fun E env => match env[i]? with
  | some (some (.gdi kvs)) => m E (env.set i (some (.val (.gd (kvs.map (·.1)) (kvs.map (·.2))))))
  | _ => False
theorem bv_lockE {st : List Stmt} {mb : MS} (i : Nat) (h : BV X Tb st mb) : BV X Tb st (sLockE i mb) := by
  obtain ⟨t, p, h⟩ := h.ex
  refine ⟨_, GD.pss_ghostE p, fun W Oc H0 O H σ env D E F hm k => ?_⟩
  unfold sLockE at hm
  split at hm
  · rename_i kvs e0
    obtain ⟨a, m, ha, hF⟩ := F.lockE e0
    refine ⟨a, m, ha, fun od => ?_⟩
    obtain ⟨O', F', mv⟩ := hF od
    exact h W Oc H0 O' _ σ _ D E F' hm (k.mv mv)
  · exact False.elim hm
end
end DL

set_option Elab.async false
set_option linter.all false
set_option autoImplicit false
set_option maxRecDepth 100000
set_option maxHeartbeats 1000000
/-! GD9: sum(d.values()), sorted(d), {k: v}, d a dict whose keys are tuples. -/
namespace GD
open PySem PySem.Spec PyProof.Rows L2
theorem preSum_list : ∀ (ns : List Int), PySem.preSum (fun i => ns.getD i 0) ns.length = ns.sum
  | [] => rfl
  | n :: ns => by
    rw [List.length_cons, PySem.W.kdu_shift]
    have := preSum_list ns
    simp only [List.getD_cons_zero, List.getD_cons_succ, List.sum_cons]
    rw [this]
theorem val_int {d : V} {u : Value} {n : Int} (h : d = .int n) (r : RelV d u) : ∃ t : Tok, u = .int n t := by subst h; exact r
section
variable {X : Cx} {e : Expr} {td : TE} {p apos cpos pos : Pos} {k : Nat}
def tSumV (td : TE) : TE := fun σ H Q => td σ H fun x H1 => ∃ (a : Addr) (o : Obj) (m : GM) (ns : List Int), x = .ref a ∧ H1 a = some (.frz o (gO a m)) ∧ m.map (fun p => p.2.2) = ns.map V.int ∧ Q (.int ns.sum) H1
theorem pe_sumV (hr : Room k X.A) (hg : Gl X "sum") (hm : X.mg "sum" = none) (he : PE X e td) (hbase : attributeBase e "values" X.env (eval e X.env) = eval e X.env := by rfl) (hline : (apos.endLine == cpos.line) = true := by rfl)
    (na : starEach [.Call (.Attribute e "values" apos) [] [] cpos] X.env = (false, eval (.Call (.Attribute e "values" apos) [] [] cpos) X.env) :: starEach [] X.env := by rfl) :
    PE X (.Call (.Name "sum" p) [.Call (.Attribute e "values" apos) [] [] cpos] [] pos) (tSumV td) := by
  refine ⟨fun pins s σ H Q I h => ?_⟩
  refine Call_ (ld_blt I hg hm (show bootBuiltins "sum" = some (.builtin "sum") by decide +kernel) ?_)
  refine PyProof.Rows.callWith_builtin1 (PyProof.Rows.args_cons ?_ na) na rfl
  refine wpAny_Call_method (T := "dict") (id := "dict.values") hbase rfl hline PySem.F.plainAttrs_dict PySem.F.slot_dict_values PySem.F.type_dict_values (thn (he.run pins s σ H _ I h) fun u s1 ⟨x, H1, I1, rx, a, o, m, ns, ex, hd, hns, qq⟩ => ?_)
  subst ex
  obtain rfl : u = Value.ref a := rx
  obtain ⟨hs, hl, es, ep, raw, hdt, hsz, ent⟩ := g_frz2 I1 hd
  obtain ⟨ob, ho, hx, hdt'⟩ := id raw
  refine ⟨⟨ob, ho, hx.1⟩, fun b eb => by cases eb; exact ⟨ob, ho, hx.2.1⟩, ?_⟩
  have hun := hr.un
  have hln : m.length = ns.length := by have := congrArg List.length hns; simpa using this
  have fin : wpAny (model X.prog X.w) X.A (call (.builtin "sum") [.ref s1.heap.objs.size]) (EP X pins σ Q) X.xe { s1 with heap := s1.heap.push { cls := .type "dict_values", data := .fields #[.ref a] } } := by
    have hok : (fun h : Heap => h.IsValuesView s1.heap.objs.size a ∧ h.DictRaw a es ep) (s1.heap.push { cls := .type "dict_values", data := .fields #[.ref a] }) := ⟨⟨_, Heap.get?_push_size _ rfl, rfl, rfl⟩, raw.at fun o e => Heap.get?_push_of_some _ e⟩
    refine call_sum_walkAnyS ?_
    obtain ⟨oI, St, hit, W, st⟩ := (PySem.KdlSrc.rawValues (prog := X.prog) (w := X.w) (r := s1.heap.objs.size) (d := a) (es := es) (ep := ep)).iter X.A.in1 { s1 with heap := s1.heap.push { cls := .type "dict_values", data := .fields #[.ref a] } } hr.hd hok
    have there := (PySem.KdlSrc.rawValues (prog := X.prog) (w := X.w) (r := s1.heap.objs.size) (d := a) (es := es) (ep := ep)).there _ hok
    refine hit _ _ ⟨_, _, _, _, es.size, _, _, fun i => ns.getD i 0, rfl, W.toS, st, fun b hb => ?_, ?_, fun s' t' hm => ?_⟩
    · show b < ((s1.heap.push { cls := .type "dict_values", data := .fields #[.ref a] }).push oI).objs.size
      rw [Heap.size_push]
      rcases List.mem_cons.mp hb with e | hb
      · rw [e]; exact Nat.lt_succ_self _
      · rw [List.mem_singleton.mp hb]; exact Nat.lt_succ_of_lt there.2
    · rintro i v ⟨hi, rfl⟩
      have hi' : i < m.length := by omega
      obtain ⟨_, rv⟩ := ent i hi m[i] (List.getElem?_eq_getElem hi')
      have hvi : m[i].2.2 = V.int (ns.getD i 0) := by
        have e1 := congrArg (fun l : List V => l[i]?) hns
        simp only [List.getElem?_map, List.getElem?_eq_getElem hi', Option.map_some] at e1
        have hi2 : i < ns.length := by omega
        rw [List.getElem?_eq_getElem hi2, Option.map_some] at e1
        injection e1 with e1
        rw [e1]
        simp [List.getD_eq_getElem?_getD, hi2]
      exact val_int hvi rv
    · have hk : ∀ b o, s1.heap.get? b = some o → s'.heap.get? b = some o := fun b o e =>
        hm.heap b o (fun hI => absurd (Heap.lt_size e) (by
          have e1 : b = (s1.heap.push { cls := .type "dict_values", data := .fields #[.ref a] }).objs.size := List.mem_singleton.mp hI
          rw [Heap.size_push] at e1
          exact Nat.not_lt.mpr (by rw [e1]; exact Nat.le_succ _))) (Heap.get?_push_of_some _ (Heap.get?_push_of_some _ e))
      rw [Moved.eq_with hm]
      refine ⟨.int ns.sum, H1, I1.kept (t' := s'.toks) hk, ⟨t', ?_⟩, qq⟩
      rw [hsz, hln, preSum_list]
  show wpAny _ _ (callWith cpos (.builtin "dict.values") [.ref a] [] []) _ X.xe s1
  exact method_meetsIn PySem.F.slot_dict_values PySem.F.entry_dict_values rfl (PySem.evalArgs_none ⟨rfl, ⟨ob, ho, hx.1⟩, PySem.F.args_dict_values_1 _, _, meets_dict_values_raw a hs, ⟨es, ep, raw⟩, PyProof.Rows.args_nil fin⟩)
end
end GD
namespace DL
open PySem PySem.Spec PyProof.Rows L2
section
variable {X : Cx} {Tb : Addr → Prop} {e : Expr} {m : ME} {p apos cpos pos : Pos} {k : Nat}
@[simp] def eSumGd (m : ME) : ME := fun env P => m env fun x e1 => match x with
  | .gd _ vs => ∃ ns : List Int, vs = ns.map D.int ∧ P (.int ns.sum) e1
  | _ => False
theorem reps_intsG {K : PySem.W.Frag} {Pl O : Addr → Prop} {H : Hp} : ∀ (ns : List Int) (us : List V), Reps K Pl O H (ns.map D.int) us → us = ns.map V.int
  | [], _, h => h
  | n :: ns, _, h => by
    obtain ⟨v, r, rfl, h1, h2⟩ := h
    rw [reps_intsG ns r h2, show v = _ from h1]; rfl
theorem ev_sumGd (hr : Room k X.A) (hg : Gl X "sum") (hm : X.mg "sum" = none) (h : EV X Tb e m) (hbase : attributeBase e "values" X.env (eval e X.env) = eval e X.env := by rfl) (hline : (apos.endLine == cpos.line) = true := by rfl)
    (na : starEach [.Call (.Attribute e "values" apos) [] [] cpos] X.env = (false, eval (.Call (.Attribute e "values" apos) [] [] cpos) X.env) :: starEach [] X.env := by rfl) :
    EV X Tb (.Call (.Name "sum" p) [.Call (.Attribute e "values" apos) [] [] cpos] [] pos) (eSumGd m) := by
  obtain ⟨t, pe, h⟩ := h.ex
  refine ⟨_, GD.pe_sumV hr hg hm pe hbase hline na, fun W Oc H0 O H σ env Q P F hmm hq => ?_⟩
  refine h W Oc H0 O H σ env _ _ F hmm fun H1 v d e1 F1 s1 r1 q1 => ?_
  cases d with
  | gd ks vs =>
    obtain ⟨a, o, m, rfl, q, nO, kd, r1, r2⟩ := r1
    obtain ⟨ns, rfl, q1⟩ := q1
    exact ⟨a, o, m, ns, rfl, q, reps_intsG ns _ r2, hq H1 _ (.int ns.sum) e1 F1 s1 rfl q1⟩
  | _ => exact False.elim q1
end
/-! ### sorted(d) -/
theorem keys_each {K : PySem.W.Frag} {Pl O : Addr → Prop} {H : Hp} {ks : List D} {m : GD.GM} (r : Reps K Pl O H ks (m.map fun p => V.ref p.2.1)) : ∀ (us : List Value), us.length = m.length → (∀ (j : Nat) (u : Value) (p : NestedKey × Addr × V), us[j]? = some u → m[j]? = some p → u = .ref p.2.1) → PySem.W.EachIs (RDV K Pl O H) us ks := by
  intro us hl hu
  refine each_of r ?_
  clear r
  induction m generalizing us with
  | nil =>
    rw [List.eq_nil_of_length_eq_zero hl]; exact .nil
  | cons p m ih =>
    cases us with
    | nil => simp at hl
    | cons u us =>
      rw [List.map_cons]
      refine .cons ?_ (ih us (by simpa using hl) fun j u q h1 h2 => hu (j + 1) u q h1 h2)
      rw [hu 0 u p rfl rfl]; rfl
def rSortedG (K : PySem.W.Frag) : List V → Hp → VK → Prop := fun vs H Q => ∃ (a : Addr) (o : Obj) (m : GD.GM) (Pl O : Addr → Prop) (ks : List D), vs = [V.ref a] ∧ H a = some (.frz o (GD.gO a m)) ∧ Reps K Pl O H ks (m.map fun p => V.ref p.2.1) ∧ plains 8 ks = true ∧ PySem.W.AllAlike (ks.map toPy) ∧ PySem.W.Sortable (ks.map toPy) ∧
  ∀ (p : Addr) (ws : List V), H p = none → Reps K Pl O H (ks.mergeSort leD) ws → Q (.ref p) (upd H p (.lst ws))
theorem cr_sortedG {X : Cx} {k : Nat} (hr : Room k X.A) : CallR X (.builtin "sorted") (rSortedG X.K) := by
  intro pins s σ H vs us Q I r h
  obtain ⟨a, o, m, Pl, O, ks, rfl, hd, rk, hp, hal, hk, qq⟩ := h
  obtain ⟨hs, hml, es, ep, raw, hdt, hsz, hent⟩ := GD.g_frz2 I hd
  rw [Vals.ref1 r]
  have hun := hr.un
  refine PySem.Calls.call_function_entry kind_sorted plain_sorted entry_sorted (args_sorted1 _) ?_
  unfold Builtin.«sorted»
  refine wpAny_bind (m := checkCount "sorted" 1 1 _) (wpAny_pure ?_)
  refine wpAny_bind (PySem.W.kdu_collect (A := X.A.in1) (PySem.KdlSrc.rawDict (prog := X.prog) (w := X.w) (d := a) (es := es) (ep := ep) hs) hr.hd raw (by omega) fun h' tk acc hkp hacc => ?_)
  have hl : acc.toList.length = es.size := by rw [Array.length_toList]; exact hacc.1
  have I1 : Inv X pins σ H { s with heap := h', toks := tk } := I.kept (t' := tk) hkp
  have each := keys_each rk acc.toList (by omega) fun j u p e1 e2 => by
    obtain ⟨hi, rfl⟩ := hacc.2 j u (by rw [← Array.getElem?_toList]; exact e1)
    exact (hent j hi p e2).1
  have hlen : ks.length ≤ sizeLine := by rw [← each.length]; omega
  refine wpAny_bind (wpAny_newList ?_ (by omega))
  have I4 : Inv X pins σ H { s with heap := h'.push { cls := .type "list", data := .seq acc.toList.toArray }, toks := tk } := I1.kept (t' := tk) fun b ob q => Heap.get?_push_of_some _ q
  refine wpAny_bind (wpAny_holding (wpAny_mono (Q := fun _ s' => EP X pins σ Q (.ref h'.objs.size) s') ?_ (fun _ s' x => wpAny_pure ⟨_, rfl, x⟩) fun _ _ e => e))
  refine PySem.W.list_sort_data (A := X.A.in1) (s := { s with heap := h'.push { cls := .type "list", data := .seq acc.toList.toArray }, toks := tk }) (vs := acc.toList) (R := RDV X.K Pl O H) (enc := toPy) (bs := ks) (n := 0) (Heap.get?_push_size _ rfl) each ?_ hal hk hlen (fun b hb => ?_) fun out hlo hout => ?_
  · refine (PySem.W.each_mem each).mono fun u d ⟨⟨v, a1, a2⟩, hd⟩ => ?_
    obtain ⟨j, hj, rfl⟩ := List.getElem_of_mem hd
    have hpl := plains_at hp (List.getElem?_eq_getElem hj)
    obtain ⟨as2, r⟩ := Dp.reads I1 _ _ _ (dp_of 8 _ _ hpl a2) a1
    refine ⟨as2, PyProof.Rows.Reads.keeps (fun b o e => Heap.get?_push_of_some _ e) r, fun zz => ?_⟩
    have hin : toPy ks[j] ∈ ks.map toPy := List.mem_map_of_mem hd
    exact absurd (GD.reads_lt _ _ _ (hal _ hin _ hin) r _ zz) (Nat.lt_irrefl _)
  · obtain ⟨j, hj, rfl⟩ := List.getElem_of_mem hb
    have hpl := plains_at hp (List.getElem?_eq_getElem hj)
    have := depth_plain 8 _ (by decide) hpl
    show X.A.units + 1 + 1 + _ < cLine
    omega
  · obtain ⟨ws, w1, w2⟩ := each_back hout
    obtain ⟨e0, he2⟩ := sortedHeap_at (h := h'.push { cls := .type "list", data := .seq acc.toList.toArray }) (a := h'.objs.size) (vs := acc.toList) (n := 0) (out := out.toArray) (Heap.get?_push_size _ rfl)
    have hn : H h'.objs.size = none := I1.hok.fresh (Nat.le_refl _)
    have hwl : ws.length ≤ sizeLine := by rw [w1.length, hlo]; exact hlen
    refine ⟨.ref h'.objs.size, upd H h'.objs.size (.lst ws), ?_, rfl, qq _ ws hn w2⟩
    exact I1.laid (t' := tk) (fun b u zz => by rw [sortedHeap_old (Nat.ne_of_lt (Heap.lt_size zz)) (by rw [Heap.size_push]; exact Nat.lt_succ_of_lt (Heap.lt_size zz))]; exact Heap.get?_push_of_some _ zz) (Nat.le_refl _) ⟨hwl, out, e0, w1, he2⟩
def fSortedG : FD := fun ds P => ∃ ks vs : List D, ds = [.gd ks vs] ∧ plains 8 ks = true ∧ PySem.W.AllAlike (ks.map toPy) ∧ PySem.W.Sortable (ks.map toPy) ∧ P (.lst (ks.mergeSort leD))
theorem cv_sortedG {X : Cx} {k : Nat} (hr : Room k X.A) : CV X (.builtin "sorted") fSortedG := by
  refine ⟨_, cr_sortedG hr, fun Pl O H ds vs Q P hO r h hq => ?_⟩
  obtain ⟨ks, us0, rfl, hp, hal, hk, h⟩ := h
  obtain ⟨v, us, rfl, ⟨a, o, m, rfl, qa, na, kd, ra, rb⟩, e⟩ := r
  cases (show us = [] from e)
  exact ⟨a, o, m, Pl, O, ks, rfl, qa, ra, hp, hal, hk, fun p ws hpn hw => hq _ _ _ (same_upd hpn) (rep_new_lst hO hw hpn) h⟩
end DL

set_option Elab.async false
set_option linter.all false
set_option autoImplicit false
set_option maxRecDepth 100000
set_option maxHeartbeats 1000000
/-! DDm: {**m, k: v}, keys ints and strs: the evaluator. -/
namespace DMp
open PySem PySem.Spec PyProof.Rows L2
section
variable {prog : Program} {w : World} {A : Around} {E : Value → Shared → Prop} {s : Shared}
theorem wpAny_put {d : Addr} {kvs : List (Key × Value)} {k : Key} {key v : Value} {Q : Unit → Shared → Prop} (hkey : (mixKind prog w).is k key = true) (hm : s.heap.DictOf (mixKind prog w) d kvs)
    (hQ : ∀ h', h'.DictOf (mixKind prog w) d (stored kvs k v) → Heap.SameBut d s.heap h' → Q () { s with heap := h' }) (hsz : kvs.length ≤ sizeLine) :
    wpAny (model prog w) A (dictPut d ((mixKind prog w).hash k) key v) Q E s := by
  obtain ⟨o, es, ep, ho, hc, hd, hk, hp, hn⟩ := hm
  have hes : es.size ≤ sizeLine := by
    have e1 := hp.length
    have e2 : es.toList.length = es.size := by simp
    omega
  unfold dictPut
  refine wpAny_bind (wpAny_dictFind_of hkey ho hd hk ?_)
  have hidx : (es.findIdx? fun e => (mixKind prog w).is k e.key) = kvs.findIdx? fun kv => decide (kv.1 = k) := by
    rw [← hp.findIdx k]; obtain ⟨l⟩ := es; simp
  cases hi : es.findIdx? fun e => (mixKind prog w).is k e.key with
  | some i =>
    refine wpAny_updateDict ho hd (hQ _ ⟨_, _, ep, Heap.get?_update_self _ ho (Obj.isFreed_of_dict (Obj.data_mapDict hd _)), hc.mapDict _, Obj.data_mapDict hd _, hk.modify _ _, ?_, ?_⟩ (Heap.SameBut.update ..))
    · rw [stored, if_pos (any_of_findIdx_some (hidx ▸ hi))]
      have hl : (es.toList.findIdx? fun e => (mixKind prog w).is k e.key) = some i := by rw [← hi]; obtain ⟨l⟩ := es; simp
      have := hp.modify hn hl v
      obtain ⟨l⟩ := es
      simpa using this
    · rw [stored, if_pos (any_of_findIdx_some (hidx ▸ hi)), keys_map_store]; exact hn
  | none =>
    have hnot : k ∉ kvs.map (·.1) := not_mem_of_findIdx_none (hidx ▸ hi)
    have hany : ¬ (kvs.any fun kv => decide (kv.1 = k)) = true := by
      rw [List.any_eq_true]; rintro ⟨kv, hkv, he⟩
      exact hnot (List.mem_map.mpr ⟨kv, hkv, of_decide_eq_true he⟩)
    refine wpAny_updateDictKeys (hz := hes) ho hd (hQ _ ⟨_, _, ep + 1, Heap.get?_update_self _ ho (Obj.isFreed_of_dict (Obj.data_mapDictKeys hd _)), hc.mapDictKeys _, Obj.data_mapDictKeys hd _, hk.push hkey _, ?_, ?_⟩ (Heap.SameBut.update ..))
    · rw [stored, if_neg hany]
      have := hp.append hkey ((mixKind prog w).hash k) v
      obtain ⟨l⟩ := es
      simpa using this
    · rw [stored, if_neg hany, List.map_append, List.nodup_append]
      refine ⟨hn, by simp, ?_⟩
      intro a ha b hb
      simp only [List.map_cons, List.map_nil, List.mem_singleton] at hb
      subst hb
      exact fun e => hnot (e ▸ ha)
theorem wpAny_merge {d o : Addr} {kvs more : List (Key × Value)} {Q : Unit → Shared → Prop} (hdo : d ≠ o) (hoS : (o == sysModules) = false)
    (hd : s.heap.DictOf (mixKind prog w) d kvs) (ho : s.heap.DictOf (mixKind prog w) o more)
    (hQ : ∀ h', h'.DictOf (mixKind prog w) d (merged kvs more) → h'.DictOf (mixKind prog w) o more → Heap.SameBut d s.heap h' → Q () { s with heap := h' }) (hsz : kvs.length + more.length ≤ sizeLine) :
    wpAny (model prog w) A (mergeMapping d (.ref o) false) Q E s := by
  obtain ⟨od, esd, epd, hod, hcd, hdd, hkd, hpd, hnd⟩ := id hd
  obtain ⟨oo, eso, epo, hoo, hco, hdo', hko, hpo, hno⟩ := id ho
  have hlen : more.length = eso.size := by rw [← hpo.length]; simp
  unfold mergeMapping
  refine wpAny_bind (wpAny_isInstance ho.typeIs isSubtype_dict_dict ?_)
  rw [if_pos rfl]
  refine wpAny_bind (wpAny_specialOf ho.typeIs F.slot_dict_iter.lookup (wpAny_bind (wpAny_pure ?_)))
  simp only [beq_self_eq_true]
  rw [if_neg (by rw [hoS]; exact Bool.false_ne_true)]
  refine wpAny_bind (wpAny_dictEntries hod hdd ?_)
  by_cases hemp : esd.isEmpty = true
  rw [if_pos hemp]
  refine wpAny_bind (wpAny_dictEntries hoo hdo' ?_)
  refine wpAny_bind ?_
  rw [← Array.forIn_toList]
  refine wpAny_forIn_list _ (fun rest _ s' => s' = s ∧ ∀ e ∈ rest, e ∈ eso) _ (by
    rintro x rest b s' ⟨rfl, hmem⟩
    obtain ⟨k', hk', _⟩ := hko x (hmem x (List.mem_cons_self ..))
    have hr : ∀ e ∈ rest, e ∈ eso := fun e h => hmem e (List.mem_cons_of_mem _ h)
    rcases keyIs_shape hk' with ⟨i, t, _, e⟩ | ⟨y, t, _, e⟩
    · rw [e]; exact wpAny_pure ⟨rfl, hr⟩
    · rw [e]; exact wpAny_pure ⟨rfl, hr⟩) ?_ _ _ ⟨rfl, fun e h => Array.mem_toList_iff.mp h⟩
  rintro b s' ⟨e2, _⟩
  rw [e2]
  clear e2 s'
  rotate_left
  rw [if_neg hemp]
  all_goals
    refine wpAny_bind (wpAny_dictEntries hoo hdo' ?_)
    refine wpAny_bind (wpAny_dictEpoch hoo hdo' ?_)
    refine wpAny_bind ?_
  all_goals
    rw [List.range_eq_range']
    refine wpAny_forIn_list _ (fun rest _ s' => ∃ h' i, s' = { s with heap := h' } ∧ rest = List.range' i (eso.size - i) ∧ i ≤ eso.size ∧ h'.DictOf (mixKind prog w) d (merged kvs (more.take i)) ∧ h'.get? o = some oo ∧ Heap.SameBut d s.heap h') _ (by
      rintro x rest b s' ⟨h', i, rfl, hr, hi, hd', hoo', hs'⟩
      have hlt : i < eso.size := by
        rcases Nat.lt_or_ge i eso.size with h | h
        · exact h
        · rw [Nat.sub_eq_zero_of_le h] at hr; simp at hr
      obtain ⟨rfl, hrest⟩ : x = i ∧ rest = List.range' (i + 1) (eso.size - (i + 1)) := by
        have e : eso.size - i = (eso.size - (i + 1)) + 1 := by omega
        rw [e, List.range'_succ] at hr
        injection hr with h1 h2
        exact ⟨h1, h2⟩
      refine wpAny_bind (wpAny_dictEntries hoo' hdo' ?_)
      rw [Array.getElem?_eq_getElem hlt]
      obtain ⟨kv, hkv⟩ : ∃ kv, more[x]? = some kv := ⟨more[x]'(by rw [hlen]; exact hlt), List.getElem?_eq_getElem _⟩
      obtain ⟨k, v⟩ := kv
      obtain ⟨hkey, hval⟩ := hpo.get? (e := eso[x]) (by simp [hlt]) hkv
      obtain ⟨k', hkey', hhash⟩ := hko eso[x] (Array.getElem_mem hlt)
      obtain rfl : k' = k := (mixKind prog w).inj _ _ _ hkey' hkey
      dsimp only
      rw [if_neg Bool.false_ne_true, hhash, hval]
      have hmx : (merged kvs (more.take x)).length ≤ sizeLine := by
        have e1 := merged_length_le kvs (more.take x)
        have e2 : (more.take x).length ≤ more.length := by rw [List.length_take]; omega
        omega
      refine wpAny_bind (wpAny_holding (wpAny_put hkey hd' (fun h'' hd'' hs'' => ?_) hmx))
      have hoo'' : h''.get? o = some oo := (hs''.2 o (Ne.symm hdo)).trans hoo'
      refine wpAny_bind (wpAny_dictEpoch hoo'' hdo' ?_)
      rw [if_neg (by simp)]
      exact wpAny_pure ⟨h'', x + 1, rfl, hrest, hlt, by rw [merged_take_succ kvs more x (k', v) hkv]; exact hd'', hoo'', hs'.trans hs''⟩) (by
      rintro b s' ⟨h', i, rfl, hr, hi, hd', hoo', hs'⟩
      have hin : i = eso.size := by
        rcases Nat.lt_or_ge i eso.size with h | h
        · have e : eso.size - i = (eso.size - (i + 1)) + 1 := by omega
          rw [e, List.range'_succ] at hr; exact nomatch hr
        · exact Nat.le_antisymm hi h
      refine wpAny_pure (hQ h' ?_ ⟨oo, eso, epo, hoo', hco, hdo', hko, hpo, hno⟩ hs')
      rw [hin, ← hlen, List.take_length] at hd'; exact hd') _ _ ⟨s.heap, 0, rfl, by simp, Nat.zero_le _, by simpa [merged] using hd, hoo, Heap.SameBut.refl _ _⟩
/-- {**m, k: v}: the evaluator -/
theorem wpAny_display {vm vk vv : Sem Value} {Q : Value → Shared → Prop}
    (h : wpAny (model prog w) A vm (fun m s1 => ∃ (o : Addr) (more : List (Key × Value)), m = .ref o ∧ s.heap.objs.size ≠ o ∧ (o == sysModules) = false ∧ s1.heap.DictOf (mixKind prog w) s.heap.objs.size [] ∧ s1.heap.DictOf (mixKind prog w) o more ∧ more.length ≤ 1000000 ∧ (more.map (·.1)).Nodup ∧
      ∀ h', h'.DictOf (mixKind prog w) s.heap.objs.size more → h'.DictOf (mixKind prog w) o more → Heap.SameBut s.heap.objs.size s1.heap h' →
        wpAny (model prog w) A (evalPairs [(vk, vv)]) (fun vs s2 => ∃ k u more2, Carries (mixKind prog w) vs [(k, u)] ∧ s2.heap.DictOf (mixKind prog w) h'.objs.size [] ∧ s2.heap.DictOf (mixKind prog w) s.heap.objs.size more2 ∧ more2.length ≤ 1000000 ∧ s.heap.objs.size ≠ h'.objs.size ∧ (h'.objs.size == sysModules) = false ∧
          ∀ h2 h3, h2.DictOf (mixKind prog w) h'.objs.size [(k, u)] → Heap.SameBut h'.objs.size s2.heap h2 → h3.DictOf (mixKind prog w) s.heap.objs.size (stored more2 k u) → Heap.SameBut s.heap.objs.size h2 h3 → Q (.ref s.heap.objs.size) { s2 with heap := h3, toks := s2.toks + vs.length })
          E { s1 with heap := h'.push { cls := .type "dict", data := .dict #[] } }) E { s with heap := s.heap.push { cls := .type "dict", data := .dict #[] } }) :
    wpAny (model prog w) A (dictDisplay [(none, vm), (some vk, vv)]) Q E s := by
  unfold dictDisplay
  simp only [List.forIn_cons, List.forIn_nil]
  simp only [List.isEmpty_nil, if_true, pure_bind, bind_assoc, List.nil_append]
  have e17 : ([(vk, vv)].length == 17) = false := rfl
  have ee : [(vk, vv)].isEmpty = false := rfl
  simp only [e17, ee, Bool.false_eq_true, if_false, pure_bind, bind_assoc]
  refine wpAny_bind (wpAny_alloc ?_)
  refine wpAny_bind (wpAny_holding (wpAny_mono h ?_ fun _ _ e => e))
  rintro m s1 ⟨o, more, rfl, hne, hoS, hd, ho, hm, hnd, hk⟩
  refine wpAny_bind (wpAny_onRaise (wpAny_tryCatch (wpAny_onRaise (wpAny_holding (wpAny_merge hne hoS hd ho (fun h' hd' ho' hs' => ?_) (by rw [sizeLine_eq, List.length_nil]; omega))))))
  rw [merged_nil_of_nodup more hnd] at hd'
  have hk := hk h' hd' ho' hs'
  refine wpAny_bind (wpAny_holding (wpAny_subDict (knd := mixKind prog w) (by simp) (wpAny_mono hk ?_ fun _ _ e => e)))
  rintro vs s2 ⟨k, u, more2, hc, hq, hp, hm2, hpq, hqS, fin⟩
  refine ⟨[(k, u)], hc, hq, fun h2 hq2 hs2 => ?_⟩
  rw [merged_nil_of_nodup [(k, u)] (by simp)] at hq2
  have hp2 := hp.sameBut hs2 hpq
  refine wpAny_bind (wpAny_onRaise (wpAny_holding (wpAny_merge hpq hqS hp2 hq2 (fun h3 hp3 hq3 hs3 => ?_) (by rw [sizeLine_eq, List.length_cons, List.length_nil]; omega))))
  exact wpAny_pure (fin h2 h3 hq2 hs2 hp3 hs3)
end
/-! ### {**m, k: v} -/
def tMerge (tm tk tv : TE) : TE := fun σ H Q => ∀ p, H p = none → tm σ (upd H p (.dK [])) fun x H1 => H1 p = some (.dK []) ∧ ∃ (a : Addr) (kvs : List (Key × V)), x = .ref a ∧ p ≠ a ∧ (H1 a = some (.dK kvs) ∨ (H1 a = some (.dT []) ∧ kvs = [])) ∧ kvs.length ≤ 1000000 ∧
  ∀ q, upd H1 p (.dK kvs) q = none → tk σ (upd (upd H1 p (.dK kvs)) q (.dK [])) fun y H2 => tv σ H2 fun z H3 => H3 p = some (.dK kvs) ∧ H3 q = some (.dK []) ∧ ∃ k, y = kV k ∧ Q (.ref p) (upd (upd H3 q (.dK [(k, z)])) p (.dK (putK kvs k z)))
theorem pe_merge {X : Cx} {pos : Pos} {m k v : Expr} {tm tk tv : TE} (hm : PE X m tm) (hk : PE X k tk) (hv : PE X v tv) : PE X (.Dict [none, some k] [m, v] pos) (tMerge tm tk tv) := by
  refine ⟨fun pins s σ H Q I q => ?_⟩
  have hn := I.hok.fresh (Nat.le_refl s.heap.objs.size)
  have I1 := I.laid (a := s.heap.objs.size) (o := .dK []) (h' := s.heap.push { cls := .type "dict", data := .dict #[] }) (t' := s.toks) (fun _ _ q => Heap.get?_push_of_some _ q) (Nat.le_refl _) (dk_empty s.heap I.big)
  have hsh : (evalEachOpt [none, some k] X.env).zip ((evalEach [m, v] X.env).map fun v => do let x ← v; standAt pos; pure x) = [(none, do let x ← eval m X.env; standAt pos; pure x), (some (eval k X.env), do let x ← eval v X.env; standAt pos; pure x)] := rfl
  rw [arm_eval_Dict, hsh]
  generalize hpp : s.heap.objs.size = p at *
  refine wpAny_bind (wpAny_standAt (wpAny_display ?_))
  rw [hpp]
  refine wpAny_bind (thn (hm.run pins _ σ _ _ I1 (q _ hn)) fun u s1 ⟨x, H1, J1, rx, ep, a, kvs, ex, hpa, ha, hl, q2⟩ => wpAny_bind (wpAny_standAt (wpAny_pure ?_)))
  subst ex
  obtain rfl : u = Value.ref a := rx
  obtain ⟨H1', J1', ea, ep', back⟩ : ∃ H1', Inv X pins σ H1' s1 ∧ H1' a = some (.dK kvs) ∧ H1' p = some (.dK []) ∧ (∀ s', Inv X pins σ (upd H1' p (.dK kvs)) s' → Inv X pins σ (upd H1 p (.dK kvs)) s') := by
    rcases ha with ha | ⟨ha, rfl⟩
    · exact ⟨H1, J1, ha, ep, fun _ z => z⟩
    · refine ⟨upd H1 a (.dK []), DO.reK J1 ha, upd_same, by rw [upd_ne hpa]; exact ep, fun s' z => ?_⟩
      have := DO.reT z (a := a) (by rw [upd_ne (Ne.symm hpa)]; exact upd_same)
      have e : upd (upd (upd H1 a (.dK [])) p (.dK [])) a (.dT []) = upd H1 p (.dK []) := by
        funext b
        by_cases hb : b = a
        · rw [hb, upd_same, upd_ne (Ne.symm hpa), ha]
        · rw [upd_ne hb]
          by_cases hbp : b = p
          · rw [hbp, upd_same, upd_same]
          · rw [upd_ne hbp, upd_ne hbp, upd_ne hb]
      rw [e] at this
      exact this
  obtain ⟨zp, hdp, vs0, r0, ddp⟩ := dk_of J1'.hok ep'
  cases r0
  obtain ⟨za, hda, vsa, ra, dda⟩ := dk_of J1'.hok ea
  have hla : vsa.length = kvs.length := ra.length.symm
  have hnd : (vsa.map (·.1)).Nodup := by obtain ⟨_, _, _, _, _, _, _, _, hn⟩ := id dda; exact hn
  refine ⟨a, vsa, rfl, hpa, hda, ddp, dda, by rw [hla]; exact hl, hnd, fun h' hp' ha' hs' => ?_⟩
  have J2 : Inv X pins σ (upd H1' p (.dK kvs)) { s1 with heap := h', toks := s1.toks } :=
    d_write J1' (by rw [ep']; exact True.intro) hs' (let ⟨q, _, _, hq, _⟩ := hp'; ⟨q, hq⟩) (dk_new za hdp ra hp')
  have J2 := back _ J2
  have hnq := J2.hok.fresh (Nat.le_refl h'.objs.size)
  have J3 := J2.laid (a := h'.objs.size) (o := .dK []) (h' := h'.push { cls := .type "dict", data := .dict #[] }) (t' := s1.toks) (fun _ _ q => Heap.get?_push_of_some _ q) (Nat.le_refl _) (dk_empty h' J2.big)
  refine evalPairs_cons (thn (hk.run pins _ σ _ _ J3 (q2 _ hnq)) fun y1 s2 ⟨y, H2, J4, ry, q3⟩ => wpAny_bind (thn (hv.run pins s2 σ H2 _ J4 q3) fun z1 s3 ⟨z, H3, J5, rz, e3p, e3q, key, ey, q4⟩ => wpAny_bind (wpAny_standAt (wpAny_pure (evalPairs_nil ?_)))))
  subst ey
  generalize hqq : h'.objs.size = q' at *
  have hpq : p ≠ q' := fun e => by rw [← e, upd_same] at hnq; cases hnq
  obtain ⟨zq, hdq, vsq, rq, ddq⟩ := dk_of J5.hok e3q
  cases rq
  obtain ⟨zp3, hdp3, vsp, rp3, ddp3⟩ := dk_of J5.hok e3p
  have hlp : vsp.length = kvs.length := rp3.length.symm
  refine ⟨key, z1, vsp, ⟨kV_is ry, rfl, True.intro⟩, ddq, ddp3, by rw [hlp]; exact hl, hpq, hdq, fun h2 h3 hq2 hs2 hp3 hs3 => ?_⟩
  have J6 : Inv X pins σ (upd H3 q' (.dK [(key, z)])) { s3 with heap := h2, toks := s3.toks } :=
    d_write J5 (by rw [e3q]; exact True.intro) hs2 (let ⟨q, _, _, hq, _⟩ := hq2; ⟨q, hq⟩) (dk_new (by rw [sizeLine_eq, List.length_cons, List.length_nil]; omega) hdq (.cons ⟨rfl, rz⟩ .nil) hq2)
  have e6p : (upd H3 q' (.dK [(key, z)])) p = some (.dK kvs) := by rw [upd_ne hpq]; exact e3p
  have hsz : (putK kvs key z).length ≤ sizeLine := by
    have := length_putK kvs key z
    rw [sizeLine_eq]; omega
  have J7 := d_write (h' := h3) (t' := s3.toks + 1) (ob := .dK (putK kvs key z)) J6 (by rw [e6p]; exact True.intro) hs3 (let ⟨q, _, _, hq, _⟩ := hp3; ⟨q, hq⟩) (dk_new hsz hdp (rp3.put key rz) hp3)
  exact ⟨.ref p, _, J7, rfl, q4⟩
end DMp

set_option Elab.async false
set_option linter.all false
set_option autoImplicit false
set_option maxRecDepth 100000
/-! DDe: {**m, k: v} over data. -/
namespace DL
open PySem PySem.Spec PyProof.Rows L2
section
variable {X : Cx} {Tb : Addr → Prop} {m k v : Expr} {mm mk mv : ME} {pos : Pos}
@[simp] def eDctPut (mm mk mv : ME) : ME := fun env P => mm (hide env) fun x _ => match x with
  | .dct ks vs => (∀ k ∈ ks, isK k = true) ∧ ks.length ≤ 1000000 ∧ mk (hide env) fun y _ => mv (hide env) fun z _ => isK y = true ∧ P (.dct ((dPut (ks.zip vs) y z).map (·.1)) ((dPut (ks.zip vs) y z).map (·.2))) env
  | _ => False
/-- a new cell, from within: nothing of the def's own is touched -/
theorem FR.cell {K : PySem.W.Frag} {W : Wd K Tb} {Oc O : Addr → Prop} {H0 H H' : Hp} {σ : St} {env : DEnv} (F : FR W Oc H0 O H σ env) {p : Addr} (h : H p = none) (kp : Keep W H H') (hp : ∃ o, H' p = some o ∧ MutO o) :
    FR W Oc H0 (fun a => O a ∨ a = p) H' σ env ∧ FR W (fun a => O a ∨ a = p) H' (fun a => O a ∨ a = p) H' σ (hide env) := by
  have F1 := F.addO h kp hp
  exact ⟨F1, F1.inner (fun _ h => h) F1.dom (fun _ _ _ _ _ r => r) []⟩
theorem notZ {K : PySem.W.Frag} {W : Wd K Tb} {H : Hp} (g : W.G H) {p : Addr} (h : H p = none) : ¬ W.Z p := fun z => by
  obtain ⟨o, e⟩ := W.dom H p g z
  rw [h] at e; cases e
theorem zip_fst : ∀ {ks vs : List D}, ks.length = vs.length → (ks.zip vs).map (·.1) = ks ∧ (ks.zip vs).map (·.2) = vs
  | [], [], _ => ⟨rfl, rfl⟩
  | k :: ks, v :: vs, h => by
    obtain ⟨h1, h2⟩ := zip_fst (ks := ks) (vs := vs) (by simpa using h)
    simp [h1, h2]
/-- the dict's cells -/
theorem dct_cells {K : PySem.W.Frag} {Pl O : Addr → Prop} {H : Hp} {ks vs : List D} {x : V} (rx : Rep K Pl O H (.dct ks vs) x) (h2 : ∀ k ∈ ks, isK k = true) :
    ∃ (a : Addr) (kvs : List (Key × V)), x = .ref a ∧ ¬ O a ∧ (H a = some (.dK kvs) ∨ (H a = some (.dT []) ∧ kvs = [])) ∧ ks = kvs.map (fun p => keyD p.1) ∧ Reps K Pl O H vs (kvs.map (·.2)) := by
  obtain ⟨a, rfl, nO, ⟨m, e, ek, r⟩ | ⟨m, e, ek, r⟩⟩ := rx
  · exact ⟨a, m, rfl, nO, .inl e, ek, r⟩
  · obtain ⟨rfl, rfl⟩ := allK ek h2
    exact ⟨a, [], rfl, nO, .inr ⟨e, rfl⟩, rfl, r⟩
theorem Keep.new {K : PySem.W.Frag} {W : Wd K Tb} {H : Hp} (g : W.G H) {p : Addr} {o : HO} (nz : ¬ W.Z p) (H' : Hp) (hk : Keep W H' H) (hp : H' p = none) : Keep W H' (upd H p o) :=
  ⟨W.loc H _ (fun b z => upd_ne fun q => nz (q ▸ z)) g, fun a u h n => by rw [upd_ne fun q => by rw [q, hp] at h; cases h]; exact hk.2 a u h n⟩
theorem ev_dput (hm : EV X Tb m mm) (hk : EV X Tb k mk) (hv : EV X Tb v mv) : EV X Tb (.Dict [none, some k] [m, v] pos) (eDctPut mm mk mv) := by
  obtain ⟨tm, pm, hm⟩ := hm.ex
  obtain ⟨tk, pk, hk⟩ := hk.ex
  obtain ⟨tv, pv, hv⟩ := hv.ex
  refine ⟨_, DMp.pe_merge pm pk pv, fun W Oc H0 O H σ env Q P F hmm hq => ?_⟩
  intro p hp
  have nZp : ¬ W.Z p := notZ F.g hp
  have kp1 : Keep W H (upd H p (.dK [])) := Keep.same F.g (same_upd hp)
  obtain ⟨F1, FI1⟩ := F.cell hp kp1 ⟨_, upd_same, .inr (.inl ⟨_, rfl⟩)⟩
  refine hm W _ _ _ _ σ (hide env) _ _ FI1 hmm fun H2 x dx e2 G2 s2 rx q2 => ?_
  obtain ⟨ks, vs, rfl⟩ : ∃ ks vs, dx = .dct ks vs := by
    cases dx with
    | dct ks vs => exact ⟨ks, vs, rfl⟩
    | _ => exact False.elim q2
  have e2p : H2 p = some (.dK []) := G2.kept p _ upd_same nZp
  have kp2 : Keep W H H2 := kp1.trans G2.rt
  obtain ⟨g2, g3, q3⟩ := q2
  obtain ⟨a, kvs, rfl, nOa, ha, ek, rv⟩ := dct_cells rx g2
  have hpa : p ≠ a := fun e => nOa (.inr e.symm)
  have hlk : ks.length = kvs.length := by rw [ek, List.length_map]
  have hlv : kvs.length = vs.length := by have := rv.length; rw [List.length_map] at this; exact this
  refine ⟨e2p, a, kvs, rfl, hpa, ha, by omega, fun q hq' => ?_⟩
  have hqp : q ≠ p := fun e => by rw [e, upd_same] at hq'; cases hq'
  have h2q : H2 q = none := by rw [upd_ne hqp] at hq'; exact hq'
  have kp3 : Keep W H (upd H2 p (.dK kvs)) := Keep.new kp2.1 nZp H kp2 hp
  obtain ⟨F3, _⟩ := F.cell hp kp3 ⟨_, upd_same, .inr (.inl ⟨_, rfl⟩)⟩
  have nZq : ¬ W.Z q := notZ kp3.1 hq'
  have hHq : H q = none := by
    cases e : H q with
    | none => rfl
    | some o =>
      have := kp2.2 q o e nZq
      rw [h2q] at this; cases this
  obtain ⟨F4, FI4⟩ := F3.cell hq' (Keep.same F3.g (same_upd (o := .dK []) hq')) ⟨_, upd_same, .inr (.inl ⟨_, rfl⟩)⟩
  refine hk W _ _ _ _ σ (hide env) _ _ FI4 q3 fun H4 y dy e4 G4 s4 ry q4 => ?_
  refine hv W _ _ _ _ σ (hide env) _ _ (FI4.keep G4.rt) q4 fun H5 z dz e5 G5 s5 rz q5 => ?_
  obtain ⟨g1, q5⟩ := q5
  have e5p : H5 p = some (.dK kvs) := G5.kept p _ (by rw [upd_ne (Ne.symm hqp)]; exact upd_same) nZp
  have e5q : H5 q = some (.dK []) := G5.kept q _ upd_same nZq
  obtain ⟨kk0, hk0⟩ := isK_some g1
  obtain ⟨rfl, rfl⟩ := key_rep hk0 ry
  refine ⟨e5p, e5q, kk0, rfl, ?_⟩
  have kp5 : Keep W H H5 := (kp3.trans (Keep.same kp3.1 (same_upd hq'))).trans G5.rt
  have kp6 : Keep W H (upd H5 q (.dK [(kk0, z)])) := Keep.new kp5.1 nZq H kp5 hHq
  have kp7 : Keep W H (upd (upd H5 q (.dK [(kk0, z)])) p (.dK (putK kvs kk0 z))) := Keep.new kp6.1 nZp H kp6 hp
  have at_ : ∀ c, c ≠ p → c ≠ q → upd (upd H5 q (.dK [(kk0, z)])) p (.dK (putK kvs kk0 z)) c = H5 c := fun c h1 h2 => by rw [upd_ne h1, upd_ne h2]
  have mv1 : Mv (fun b => O b ∨ b = p) H2 O (upd (upd H5 q (.dK [(kk0, z)])) p (.dK (putK kvs kk0 z))) := fun c o e n => by
    have hcp : c ≠ p := fun z => n (.inr z)
    have hcq : c ≠ q := fun z => by rw [z, h2q] at e; cases e
    refine ⟨?_, fun z => n (.inl z)⟩
    rw [at_ c hcp hcq]
    exact G5.kept c o (by rw [upd_ne hcq, upd_ne hcp]; exact e) fun z => n (.inl (F.zo c z))
  have mv2 : Mv (fun b => (O b ∨ b = p) ∨ b = q) H5 O (upd (upd H5 q (.dK [(kk0, z)])) p (.dK (putK kvs kk0 z))) := fun c o e n => by
    refine ⟨?_, fun z => n (.inl (.inl z))⟩
    rw [at_ c (fun z => n (.inl (.inr z))) (fun z => n (.inr z))]
    exact e
  obtain ⟨z1, z2⟩ := zip_fst (ks := ks) (vs := vs) (by omega)
  obtain ⟨p1, p2⟩ := put_rep (k := kk0) (Rep.mv mv2 rz) kvs (ks.zip vs) (by rw [z1]; exact ek) (by rw [z2]; exact Reps.mv mv1 rv)
  exact hq _ (.ref p) (.dct ((dPut (ks.zip vs) (keyD kk0) dz).map (·.1)) ((dPut (ks.zip vs) (keyD kk0) dz).map (·.2))) env (F.keep kp7) (kp7.stab F.zo) ⟨p, rfl, F.nO hp, .inl ⟨_, upd_same, p1, p2⟩⟩ q5
end
end DL

set_option Elab.async false
set_option linter.all false
set_option autoImplicit false
set_option maxRecDepth 100000
set_option maxHeartbeats 1000000
/-! GDa: {k: v}, k a tuple. -/
namespace GD
open PySem PySem.Spec PyProof.Rows L2
def tGd1 (K : PySem.W.Frag) (tk tv : TE) : TE := fun σ H Q => ∀ p, H p = none → tk σ (upd H p (.dK [])) fun x H1 => tv σ H1 fun y H2 => H2 p = some (.dK []) ∧ ∃ b k, x = .ref b ∧ KeyH K H2 (.ref b) k ∧ Q (.ref p) (upd H2 p (gO p [(k, b, y)]))
theorem pe_gd1 {X : Cx} {pos : Pos} {k v : Expr} {tk tv : TE} (hu : X.A.units + 20 < cLine) (hk : PE X k tk) (hv : PE X v tv) : PE X (.Dict [some k] [v] pos) (tGd1 X.K tk tv) := by
  refine ⟨fun pins s σ H Q I q => ?_⟩
  have hn := I.hok.fresh (Nat.le_refl s.heap.objs.size)
  have I1 := I.laid (a := s.heap.objs.size) (o := .dK []) (h' := s.heap.push { cls := .type "dict", data := .dict #[] }) (t' := s.toks) (fun _ _ q => Heap.get?_push_of_some _ q) (Nat.le_refl _) (dk_empty s.heap I.big)
  have hp := pps_cons (pos := pos) hk hv pps_nil
  have hsh := zip_pairTrees [some k] [v] X.env pos rfl rfl
  rw [arm_eval_Dict, hsh, dictDisplay_pairs (pairTrees [some k] [v] X.env pos) (by simp [pairTrees]) (by simp [pairTrees])]
  refine wpAny_bind (wpAny_standAt (wpAny_bind (wpAny_subDictH (knd := nestedKind X.prog X.w) (Q := fun d s' => wpAny (model X.prog X.w) X.A (pure (Value.ref d)) (EP X pins σ Q) X.xe s') (show X.A.units + 8 < cLine by omega) (by simp [pairTrees]) ?_)))
  refine thn (hp.run pins _ σ _ (fun ps H2 => match ps with
    | [(x, y)] => H2 s.heap.objs.size = some (.dK []) ∧ ∃ b k, x = .ref b ∧ KeyH X.K H2 (.ref b) k ∧ Q (.ref s.heap.objs.size) (upd H2 s.heap.objs.size (gO s.heap.objs.size [(k, b, y)]))
    | _ => False) I1 (q _ hn)) ?_
  · rintro vs s1 ⟨ps, H2, I2, rel, hps⟩
    split at hps
    rotate_left
    · exact False.elim hps
    rename_i x y
    obtain ⟨e, b, kk, rfl, hkey, qq⟩ := hps
    cases rel with
    | @cons p0 q0 _ _ r0 rest =>
    cases rest
    obtain ⟨u, w2⟩ := q0
    obtain ⟨ru, rv⟩ := r0
    obtain rfl : u = Value.ref b := ru
    obtain ⟨z, hd, vs0, r0, o, es, ep, h1, h2, h3, h4, h5, h6⟩ := dk_of I2.hok e
    cases r0
    have h0 : es.toList = [] := by
      generalize es.toList = l at h5
      cases h5; rfl
    refine ⟨[(kk, b, w2)], ⟨rfl, rfl, key_is I2 hkey, trivial⟩, ⟨o, es, ep, h1, h2, h3, h0, by simp, by simp⟩, fun h' tk dd hs => wpAny_pure ?_⟩
    have hfk : Free kk := by obtain ⟨d, _, h2, _⟩ := hkey; exact free_nk d _ h2
    obtain ⟨q1, es1, ep1, hq, g2, g3, g4, _, g5⟩ := dd
    refine ⟨.ref s.heap.objs.size, _, ?_, rfl, qq⟩
    exact d_write I2 (by rw [e]; trivial) hs ⟨q1, hq⟩ (g_ok ⟨hd, by show 1 ≤ sizeLine; rw [sizeLine_eq]; omega, [(kk, b, w2)], .cons ⟨rfl, rfl, rv⟩ .nil, q1, es1, ep1, hq, g2, g3, fun P w => g4.trans (List.map_congr_left fun x hx => entry_free (by rw [List.mem_singleton.mp hx]; exact hfk)), g5⟩)
end GD
namespace GD
open PySem PySem.Spec PyProof.Rows L2
/-- a new dict is locked for good -/
def tLockV (t : TE) : TE := fun σ H Q => t σ H fun x H1 => ∃ a m, x = .ref a ∧ H1 a = some (gO a m) ∧ ∀ od, Q x (upd H1 a (.frz od (gO a m)))
theorem pe_lockV {X : Cx} {e : Expr} {t : TE} (h : PE X e t) : PE X e (tLockV t) := by
  refine ⟨fun pins s σ H Q I hw => ?_⟩
  refine thn (h.run pins s σ H _ I hw) fun u s1 ⟨x, H1, I1, rx, a, m, ex, ha, q⟩ => ?_
  obtain ⟨od, I2⟩ := I1.lock ha trivial
  exact ⟨x, _, I2, rx, q od⟩
end GD
namespace DL
open PySem PySem.Spec PyProof.Rows L2
section
variable {X : Cx} {Tb : Addr → Prop} {k v : Expr} {mk mv : ME} {pos : Pos}
/-- {k: v}, a value from now on -/
@[simp] def eGd1 (mk mv : ME) : ME := fun env P => mk (hide env) fun y _ => mv (hide env) fun z _ => isG y = true ∧ P (.gd [y] [z]) env
theorem kd_one {y : D} {kk : NestedKey} {b : Addr} {z : V} (h1 : nkD y = some kk) (h2 : kk.depth ≤ 8) (h3 : plain 8 y = true) : KD [y] [(kk, b, z)] :=
  ⟨by simp [h1], by simp [plains, h3], fun p hp => by rw [List.mem_singleton.mp hp]; exact h2⟩
theorem ev_gd1 (hu : X.A.units + 20 < cLine) (hk : EV X Tb k mk) (hv : EV X Tb v mv) : EV X Tb (.Dict [some k] [v] pos) (eGd1 mk mv) := by
  obtain ⟨tk, pk, hk⟩ := hk.ex
  obtain ⟨tv, pv, hv⟩ := hv.ex
  refine ⟨_, GD.pe_lockV (GD.pe_gd1 hu pk pv), fun W Oc H0 O H σ env Q P F hmm hq => ?_⟩
  intro p hp
  have nZp : ¬ W.Z p := notZ F.g hp
  have kp1 : Keep W H (upd H p (.dK [])) := Keep.same F.g (same_upd hp)
  obtain ⟨F1, FI1⟩ := F.cell hp kp1 ⟨_, upd_same, .inr (.inl ⟨_, rfl⟩)⟩
  refine hk W _ _ _ _ σ (hide env) _ _ FI1 hmm fun H2 y dy e2 G2 s2 ry q2 => ?_
  refine hv W _ _ _ _ σ (hide env) _ _ (FI1.keep G2.rt) q2 fun H3 z dz e3 G3 s3 rz q3 => ?_
  obtain ⟨g1, q3⟩ := q3
  have e3p : H3 p = some (.dK []) := G3.kept p _ upd_same nZp
  obtain ⟨kk0, hk0, hd0, hp0, xs, ej⟩ := isG_of g1
  obtain ⟨b, rfl⟩ : ∃ b, y = .ref b := by rw [ej] at ry; exact tup_ref ry
  have ry3 := Rep.stab s3 ry
  have kp3 : Keep W H H3 := kp1.trans G3.rt
  refine ⟨e3p, b, kk0, rfl, keyH_of hk0 hd0 hp0 ry3, p, _, rfl, upd_same, fun od => ?_⟩
  rw [GD.upd_upd]
  have kp4 : Keep W H (upd H3 p (.frz od (GD.gO p [(kk0, b, z)]))) := Keep.new kp3.1 nZp H kp3 hp
  have mv : Mv (fun a => O a ∨ a = p) H3 O (upd H3 p (.frz od (GD.gO p [(kk0, b, z)]))) := fun c o e n => by
    have hcp : c ≠ p := fun z => n (.inr z)
    exact ⟨by rw [upd_ne hcp]; exact e, fun z => n (.inl z)⟩
  exact hq _ (.ref p) (.gd [dy] [dz]) env (F.keep kp4) (kp4.stab F.zo) ⟨p, od, _, rfl, upd_same, F.nO hp, kd_one hk0 hd0 hp0, Reps.one (Rep.mv mv ry3), Reps.one (Rep.mv mv rz)⟩ q3
/-- x = {k: v}, x an own dict -/
@[simp] def sSetGd1 (i : Nat) (mk mv : ME) : MS := fun E env => mk (hide env) fun y _ => mv (hide env) fun z _ => isG y = true ∧ E.nx (env.set i (some (.gdi [(y, z)])))
theorem sv_setGd1 {i : Nat} {x : Str} {pos' dpos : Pos} (hN : X.N.Nodup) (hi : X.N[i]? = some x) (hx : Loc X.env.scope x) (hu : X.A.units + 20 < cLine) (hk : EV X Tb k mk) (hv : EV X Tb v mv) (hs : swapsWith (.Dict [some k] [v] dpos) (some (.Name x pos')) pos.line X.env = pure false := by rfl)
    (hf : X.fn x = true ∨ X.env.scope.names.lookup x = some .local := by first | exact .inl rfl | exact .inr rfl | assumption) : SV X Tb (.Assign [.Name x pos'] (.Dict [some k] [v] dpos) pos) (sSetGd1 i mk mv) := by
  obtain ⟨tk, pk, hk⟩ := hk.ex
  obtain ⟨tv, pv, hv⟩ := hv.ex
  refine ⟨_, ps_set hN hi hx (GD.pe_gd1 hu pk pv) hs hf, fun W Oc H0 O H σ env D E F hmm kk => ?_⟩
  intro p hp
  have nZp : ¬ W.Z p := notZ F.g hp
  have kp1 : Keep W H (upd H p (.dK [])) := Keep.same F.g (same_upd hp)
  obtain ⟨F1, FI1⟩ := F.cell hp kp1 ⟨_, upd_same, .inr (.inl ⟨_, rfl⟩)⟩
  refine hk W _ _ _ _ σ (hide env) _ _ FI1 hmm fun H2 y dy e2 G2 s2 ry q2 => ?_
  refine hv W _ _ _ _ σ (hide env) _ _ (FI1.keep G2.rt) q2 fun H3 z dz e3 G3 s3 rz q3 => ?_
  obtain ⟨g1, q3⟩ := q3
  have e3p : H3 p = some (.dK []) := G3.kept p _ upd_same nZp
  obtain ⟨kk0, hk0, hd0, hp0, xs, ej⟩ := isG_of g1
  obtain ⟨b, rfl⟩ : ∃ b, y = .ref b := by rw [ej] at ry; exact tup_ref ry
  have ry3 := Rep.stab s3 ry
  have kp3 : Keep W H H3 := kp1.trans G3.rt
  refine ⟨e3p, b, kk0, rfl, keyH_of hk0 hd0 hp0 ry3, ?_⟩
  have kp4 : Keep W H (upd H3 p (GD.gO p [(kk0, b, z)])) := Keep.new kp3.1 nZp H kp3 hp
  obtain ⟨F4, _⟩ := F.cell hp kp4 ⟨_, upd_same, .inr (.inr (.inr ⟨_, _, rfl⟩))⟩
  have st : Stab (fun a => O a ∨ a = p) H3 (upd H3 p (GD.gO p [(kk0, b, z)])) := fun c o e n => by rw [upd_ne fun z => n (.inr z)]; exact e
  refine kk.nx _ _ _ _ ((F.keep kp4).putM F4 (F.nO hp) i (s' := .gdi [(dy, dz)]) rfl fun hi => ⟨p, List.getElem?_set_self (F.len ▸ hi), .inr rfl, F.new0 hp, _, .inl upd_same, kd_one hk0 hd0 hp0, Reps.one (Rep.stab st ry3), Reps.one (Rep.stab st rz)⟩) (fun a o e n => ⟨kp4.stab F.zo a o e n, fun z => z.elim n fun z => by rw [z, hp] at e; cases e⟩) q3
end
end DL

set_option Elab.async false
set_option linter.all false
set_option autoImplicit false
set_option maxRecDepth 100000
set_option maxHeartbeats 1000000
/-! GDb: in, not in, d[k] of own dicts; not in, get, len of dicts that are values. -/
namespace GD
open PySem PySem.Spec PyProof.Rows L2
section
variable {X : Cx}
/-- a dict that can be asked: its own, locked, or empty -/
def GAny (H : Hp) (a : Addr) (m : GM) : Prop := GPut H a m ∨ ∃ o, H a = some (.frz o (gO a m))
variable {pins : List (Addr × Obj)} {σ : L2.St} {H : Hp} {s : Shared} {a b : Addr} {m : GM} {k : NestedKey} {A : Around} {E : Value → Shared → Prop}
theorem g_anyDict (I : Inv X pins σ H s) (g : GAny H a m) (hk : GKeys X.K H m) : (a == sysModules) = false ∧ ∃ xs, RelX m xs ∧ s.heap.DictOfH (nestedKind X.prog X.w) a xs := by
  rcases g with g | ⟨o, e⟩
  · exact g_putDict I g hk
  · obtain ⟨z, _, xs, r, dd⟩ := g_dict I (.frz o e) hk
    exact ⟨z, xs, r, dd⟩
def rInA (K : PySem.W.Frag) (neg : Bool) : R2 := fun x y H Q => ∃ a m k b, y = .ref a ∧ x = .ref b ∧ GAny H a m ∧ GKeys K H m ∧ KeyH K H (.ref b) k ∧ Q (.bl (if neg = true then !(atM m k).isSome else (atM m k).isSome)) H
theorem op_inA (hu : X.A.units + 20 < cLine) : OpR X (compareOp .In) (rInA X.K false) := by
  intro pins s σ H x y v u Q I rx ry ⟨a, m, k, b, ey, ex, g, hk, hy, q⟩
  subst ex ey
  obtain rfl : u = Value.ref a := ry
  obtain rfl : v = Value.ref b := rx
  obtain ⟨z, xs, r, dd⟩ := g_anyDict I g hk
  refine wpAny_in_heap (show X.A.in1.units + 8 < cLine from by show X.A.units + 1 + 8 < cLine; omega) (key_is I hy) z dd ?_
  have e := (r.val k).isSome_eq
  rw [Option.isSome_map] at e
  rw [← e]
  exact ⟨.bl (atM m k).isSome, H, I.tok _, rfl, q⟩
theorem op_notInA (hu : X.A.units + 20 < cLine) : OpR X (compareOp .NotIn) (rInA X.K true) := by
  intro pins s σ H x y v u Q I rx ry ⟨a, m, k, b, ey, ex, g, hk, hy, q⟩
  subst ex ey
  obtain rfl : u = Value.ref a := ry
  obtain rfl : v = Value.ref b := rx
  obtain ⟨z, xs, r, dd⟩ := g_anyDict I g hk
  refine wpAny_notIn_heap (show X.A.in1.units + 8 < cLine from by show X.A.units + 1 + 8 < cLine; omega) (key_is I hy) z dd ?_
  have e := (r.val k).isSome_eq
  rw [Option.isSome_map] at e
  rw [← e]
  exact ⟨.bl (!(atM m k).isSome), H, I.tok _, rfl, q⟩
def rIxA (K : PySem.W.Frag) : R2 := fun x y H Q => ∃ a m k b v, x = .ref a ∧ y = .ref b ∧ GAny H a m ∧ GKeys K H m ∧ KeyH K H (.ref b) k ∧ atM m k = some v ∧ Q v H
theorem ix_A (hu : X.A.units + 20 < cLine) : IxR X (rIxA X.K) := by
  intro value slice pins s σ H x y v u Q I rx ry ⟨a, m, k, b, r, ex, ey, g, hk, hy, hv, q⟩ hs
  subst ex ey
  obtain rfl : v = Value.ref a := rx
  obtain rfl : u = Value.ref b := ry
  obtain ⟨z, xs, rr, dd⟩ := g_anyDict I g hk
  obtain ⟨w', hw, rw'⟩ := RelO.some_of (v := r) (o := (atKey xs k).map (·.2)) (by rw [← hv]; exact rr.val k)
  obtain ⟨p, hp, hp2⟩ := Option.map_eq_some_iff.mp hw
  refine tail_any dd.typeIs PySem.F.slot_dict_getitem.lookup (wpAny_getItem_heap (show X.A.in1.units + 8 < cLine from by show X.A.units + 1 + 8 < cLine; omega) (key_is I hy) dd hp ?_) hs
  rw [hp2]
  exact ⟨r, H, I.tok _, rw', q⟩
end
end GD
namespace DL
open PySem PySem.Spec PyProof.Rows L2
section
variable {X : Cx} {Tb : Addr → Prop} {i : Nat} {x : Str} {e : Expr} {m : ME} {pos px : Pos}
def wNeg (neg b : Bool) : Bool := if neg = true then !b else b
/-- y in d, y not in d; d an own dict -/
@[simp] def eOInA (neg : Bool) (i : Nat) (m : ME) : ME := fun env P => m env fun y e1 => match e1[i]? with
  | some (some (.gdi kvs)) => isG y = true ∧ P (.bl (if neg = true then !(gLook kvs y).isSome else (gLook kvs y).isSome)) e1
  | _ => False
theorem kvs_zip (kvs : List (D × D)) : (kvs.map (·.1)).zip (kvs.map (·.2)) = kvs := by
  rw [List.zip_map, List.zip_eq_zipWith, List.zipWith_self, List.map_map]
  exact (List.map_congr_left (g := id) fun p _ => rfl).trans (List.map_id _)
theorem oin_run {neg : Bool} {t : TE} (h : ∀ (W : Wd X.K Tb) (Oc : Addr → Prop) (H0 : Hp) (O : Addr → Prop) (H : Hp) (σ : St) (env : DEnv) (Q : VK) (P : D → DEnv → Prop), FR W Oc H0 O H σ env → m env P →
      (∀ H1 v d e1, FR W Oc H0 O H1 σ e1 → Stab O H H1 → Rep X.K W.Pl O H1 d v → P d e1 → Q v H1) → t σ H Q) :
    ∀ (W : Wd X.K Tb) (Oc : Addr → Prop) (H0 : Hp) (O : Addr → Prop) (H : Hp) (σ : St) (env : DEnv) (Q : VK) (P : D → DEnv → Prop), FR W Oc H0 O H σ env → eOInA neg i m env P →
      (∀ H1 v d e1, FR W Oc H0 O H1 σ e1 → Stab O H H1 → Rep X.K W.Pl O H1 d v → P d e1 → Q v H1) → tOp (GD.rInA X.K neg) t (tVar i) σ H Q := by
  intro W Oc H0 O H σ env Q P F hm hq
  refine h W Oc H0 O H σ env _ _ F hm fun H1 v d e1 F1 s1 r1 q1 => ?_
  split at q1
  · rename_i kvs e0
    obtain ⟨a, ea, oa, a0, mm, gp, kd, rk, rv⟩ := F1.gdi e0
    obtain ⟨g1, q1⟩ := q1
    obtain ⟨kk0, hk0, hd0, hp0, xs, ej⟩ := isG_of g1
    obtain ⟨b, rfl⟩ : ∃ b, v = .ref b := by rw [ej] at r1; exact tup_ref r1
    have hs : (gLook kvs d).isSome = (GD.atM mm kk0).isSome := by
      rcases glook_rep hk0 kd rv with ⟨h1, h2⟩ | ⟨d', v', h1, h2, _⟩
      · rw [kvs_zip] at h1; rw [h1, h2]; rfl
      · rw [kvs_zip] at h1; rw [h1, h2]; rfl
    refine ⟨_, ea, a, mm, kk0, b, rfl, rfl, .inl gp, gkeys_of kd rk, keyH_of hk0 hd0 hp0 r1, ?_⟩
    rw [← hs]
    exact hq H1 _ (.bl _) e1 F1 s1 rfl q1
  · exact False.elim q1
theorem ev_oinA (hu : X.A.units + 20 < cLine) (hx : PE X (.Name x px) (tVar i)) (h : EV X Tb e m) (hm : behindInMarks .In (.Name x px) = false) : EV X Tb (.Compare e [.In] [.Name x px] pos) (eOInA false i m) := by
  obtain ⟨t, pe, h⟩ := h.ex
  exact ⟨_, pe_cmpR (GD.op_inA hu) pe hx hm, oin_run h⟩
theorem ev_onotInA (hu : X.A.units + 20 < cLine) (hx : PE X (.Name x px) (tVar i)) (h : EV X Tb e m) (hm : behindInMarks .NotIn (.Name x px) = false) : EV X Tb (.Compare e [.NotIn] [.Name x px] pos) (eOInA true i m) := by
  obtain ⟨t, pe, h⟩ := h.ex
  exact ⟨_, pe_cmpR (GD.op_notInA hu) pe hx hm, oin_run h⟩
theorem tv_oinA (hu : X.A.units + 20 < cLine) (hx : PE X (.Name x px) (tVar i)) (h : EV X Tb e m) (hm : behindInMarks .In (.Name x px) = false) : TV X Tb (.Compare e [.In] [.Name x px] pos) (tVal (eOInA false i m)) := by
  obtain ⟨t, pe, h⟩ := h.ex
  refine ⟨_, pt_cmpR (GD.op_inA hu) pe hx hm, fun W Oc H0 O H σ env Q P F hm hq => ?_⟩
  refine oin_run h W Oc H0 O H σ env _ _ F hm fun H1 x dx e1 F1 s1 r1 q1 => ?_
  cases dx with
  | bl k => exact ⟨k, r1, hq H1 k e1 F1 s1 q1⟩
  | _ => exact False.elim q1
theorem tv_onotInA (hu : X.A.units + 20 < cLine) (hx : PE X (.Name x px) (tVar i)) (h : EV X Tb e m) (hm : behindInMarks .NotIn (.Name x px) = false) : TV X Tb (.Compare e [.NotIn] [.Name x px] pos) (tVal (eOInA true i m)) := by
  obtain ⟨t, pe, h⟩ := h.ex
  refine ⟨_, pt_cmpR (GD.op_notInA hu) pe hx hm, fun W Oc H0 O H σ env Q P F hm hq => ?_⟩
  refine oin_run h W Oc H0 O H σ env _ _ F hm fun H1 x dx e1 F1 s1 r1 q1 => ?_
  cases dx with
  | bl k => exact ⟨k, r1, hq H1 k e1 F1 s1 q1⟩
  | _ => exact False.elim q1
/-- d[k], d an own dict -/
@[simp] def eOIxA (i : Nat) (m : ME) : ME := fun env P => match env[i]? with
  | some (some (.gdi _)) => m env fun y e1 => match e1[i]? with
    | some (some (.gdi kvs)) => isG y = true ∧ ∃ d, gLook kvs y = some d ∧ P d e1
    | _ => False
  | _ => False
theorem ev_oixA (hu : X.A.units + 20 < cLine) (hx : PE X (.Name x px) (tVar i)) (h : EV X Tb e m) (hs : PlainIx e) : EV X Tb (.Subscript (.Name x px) e pos) (eOIxA i m) := by
  obtain ⟨t, pe, h⟩ := h.ex
  refine ⟨_, pe_ix (GD.ix_A hu) hx pe hs, fun W Oc H0 O H σ env Q P F hm hq => ?_⟩
  unfold eOIxA at hm
  split at hm
  · rename_i kv0 e00
    obtain ⟨a, ea, oa, a0, _⟩ := F.gdi e00
    refine ⟨_, ea, h W Oc H0 O H σ env _ _ F hm fun H1 v d e1 F1 s1 r1 q1 => ?_⟩
    split at q1
    · rename_i kvs e0
      obtain ⟨a', ea', _, _, mm, gp, kd, rk, rv⟩ := F1.gdi e0
      rw [ea] at ea'
      cases ea'
      obtain ⟨g1, d', hd, q1⟩ := q1
      obtain ⟨kk0, hk0, hd0, hp0, xs, ej⟩ := isG_of g1
      obtain ⟨b, rfl⟩ : ∃ b, v = .ref b := by rw [ej] at r1; exact tup_ref r1
      rcases glook_rep hk0 kd rv with ⟨h1, h2⟩ | ⟨d2, v', h1, h2, h3⟩
      · rw [kvs_zip, hd] at h1; cases h1
      · rw [kvs_zip, hd] at h1
        cases h1
        exact ⟨a, mm, kk0, b, v', rfl, rfl, .inl gp, gkeys_of kd rk, keyH_of hk0 hd0 hp0 r1, h2, hq H1 v' d' e1 F1 s1 h3 q1⟩
    · exact False.elim q1
  · exact False.elim hm
/-- y not in d, d a value -/
@[simp] def oNotInG : O2 := fun y x P => match x with
  | .gd ks vs => isG y = true ∧ P (.bl (!(gLook (ks.zip vs) y).isSome))
  | _ => False
theorem ov_notInG (hu : X.A.units + 20 < cLine) : OV X (compareOp .NotIn) oNotInG := by
  refine ⟨_, GD.op_notInA hu, fun Pl O H x y v u Q P hO rx ry h hq => ?_⟩
  cases y <;> first | exact False.elim h | skip
  obtain ⟨h1, h⟩ := h
  obtain ⟨k, hk, hd, hp, xs, ex⟩ := isG_of h1
  obtain ⟨b, rfl⟩ : ∃ b, v = .ref b := by rw [ex] at rx; exact tup_ref rx
  obtain ⟨a, o, m, rfl, q, nO, kd, r1, r2⟩ := ry
  refine ⟨a, m, k, b, rfl, rfl, .inr ⟨o, q⟩, gkeys_of kd r1, keyH_of hk hd hp rx, hq H _ (.bl _) (Same.refl _) rfl ?_⟩
  rcases glook_rep hk kd r2 with ⟨g1, g2⟩ | ⟨d', v', g1, g2, g3⟩
  · rw [g2]; simpa [g1] using h
  · rw [g2]; simpa [g1] using h
end
end DL

set_option Elab.async false
set_option linter.all false
set_option autoImplicit false
set_option maxRecDepth 100000
/-! DC02: exchanges of neighbours; steps between two rankings. -/
namespace DL
open PySem (Str)
open PySem
def swp (r : List Nat) (p : Nat) : List Nat := r.take p ++ [r.getD (p + 1) 0, r.getD p 0] ++ r.drop (p + 2)
abbrev LL := List (List Nat)
def stP (r : List Nat) (ak : LL × LL) (p : Nat) : LL × LL := if swp r p ∈ ak.2 then ak else (ak.1 ++ [swp r p], ak.2 ++ [swp r p])
def stR (ak : LL × LL) (r : List Nat) : LL × LL := (List.range (r.length - 1)).foldl (stP r) ak
def stL (s : LL × LL) : LL × LL := s.1.foldl stR ([], s.2)
def st2 (a : List Nat) : Nat → LL × LL
  | 0 => ([a], [a])
  | k + 1 => stL (st2 a k)
def chk2 (n : Nat) (a : List Nat) : LL × LL → Nat → Nat → Bool
  | _, _, 0 => true
  | s, k, m + 1 => (rk n n).all (fun b => (decide (b ∈ s.2) == decide (inv81 a b ≤ k)) && decide (inv81 a b ≤ 6)) && s.1.all (fun r => decide (r.length = n)) && decide (s.1.length ≤ 24) && decide (s.2.length ≤ 24) && chk2 n a (stL s) (k + 1) m
theorem all2 : ∀ n ∈ [1, 2, 3, 4], ∀ a ∈ rk n n, chk2 n a ([a], [a]) 0 7 = true := by decide +kernel
theorem chk2_at {n : Nat} {a : List Nat} (h : chk2 n a ([a], [a]) 0 7 = true) : ∀ k, k ≤ 7 → chk2 n a (st2 a k) k (7 - k) = true
  | 0, _ => h
  | k + 1, hk => by
    have ih := chk2_at h k (by omega)
    rw [show 7 - k = (7 - (k + 1)) + 1 by omega, chk2, Bool.and_eq_true] at ih
    exact ih.2
theorem st2_ok {n : Nat} (h0 : 0 < n) (hn : n ≤ 4) {a b : List Nat} (ha : a ∈ rk n n) (hb : b ∈ rk n n) {k : Nat} (hk : k ≤ 6) : (b ∈ (st2 a k).2 ↔ inv81 a b ≤ k) ∧ inv81 a b ≤ 6 ∧ (∀ r ∈ (st2 a k).1, r.length = n) ∧ (st2 a k).1.length ≤ 24 ∧ (st2 a k).2.length ≤ 24 := by
  have h := chk2_at (all2 n (by simp; omega) a ha) k (by omega)
  rw [show 7 - k = (6 - k) + 1 by omega, chk2] at h
  simp only [Bool.and_eq_true, List.all_eq_true, beq_iff_eq, decide_eq_true_eq] at h
  obtain ⟨⟨⟨⟨h1, h2⟩, h3⟩, h4⟩, _⟩ := h
  refine ⟨?_, (h1 b hb).2, h2, h3, h4⟩
  have e := (h1 b hb).1
  exact decide_eq_decide.mp e
def F_swapped : FD := fun ds P => ∃ (r : List Nat) (p : Nat), ds = [tN r, dN p] ∧ r.length ≤ 1000 ∧ p + 1 < r.length ∧ P (tN (swp r p))
def F__law_swap : FD := fun ds P => ∃ (r : List Nat) (p : Nat), ds = [tN r, dN p] ∧ r.length ≤ 1000 ∧ p + 1 < r.length ∧ P (tN (swp r p))
def F__law_rankingK : FD := fun ds P => ∃ n : Nat, ds = [.pool, dN n] ∧ n ≤ 1000 ∧ ∀ r : List Nat, r.Perm (List.range n) → P (rkD r)
def F__law_steps_between : FD := fun ds P => ∃ (n : Nat) (a b : List Nat), ds = [tN a, tN b] ∧ 0 < n ∧ n ≤ 4 ∧ a ∈ rk n n ∧ b ∈ rk n n ∧ P (dN (inv81 a b))
def mb_swapped : MS :=
  (sRet (eTup (aStar (eCut (eVar 0) pNo (pAt (eVar 1))) (aCons (eBin oIx (eVar 0) (eBin oAdd (eVar 1) (eC (.int 1)))) (aCons (eBin oIx (eVar 0) (eVar 1)) (aStar (eCut (eVar 0) (pAt (eBin oAdd (eVar 1) (eC (.int 2)))) pNo) aNil))))))

def mb__law_swap : MS :=
  (sRet (eBin oAdd (eBin oAdd (eCut (eVar 0) pNo (pAt (eVar 1))) (eTup (aCons (eBin oIx (eVar 0) (eBin oAdd (eVar 1) (eC (.int 1)))) (aCons (eBin oIx (eVar 0) (eVar 1)) aNil)))) (eCut (eVar 0) (pAt (eBin oAdd (eVar 1) (eC (.int 2)))) pNo)))

def mb__law_rankingK : MS :=
  (sSeq (sSetOwn 2 (fListR1 (eVar 1)))
    (sSeq (sSetOwn 3 (fLst aNil))
    (sSeq (sWhile (tVal (eBin oGt (eOLen 2) (eC (.int 0))))
    (sAppend 3 (ePopAt 2 (eCall F__law_draw (aCons (eVar 0) (aCons (eOLen 2) aNil))))))
    (sFrz 3 (sRet (eCall fTupleK (aCons (eVar 3) aNil)))))))

def mb__law_steps_between : MS :=
  (sSeq (sSet 2 (eFr (fLst (aCons (eVar 0) aNil))))
    (sSeq (sSetGd1 3 (eVar 0) (eC (.bl true)))
    (sSeq (sFor (iRange1 (eC (.int 20))) (DL.gName 4)
    (sSeq (sIf (tVal (eOInA false 3 (eVar 1))) (sRet (eVar 4)) sNop)
    (sSeq (sSetOwn 5 (fLst aNil))
    (sSeq (sFor (iSeq (eVar 2)) (DL.gName 6)
    (sFor (iRange1 (eBin oSub (eCall fLen (aCons (eVar 6) aNil)) (eC (.int 1)))) (DL.gName 7)
    (sSeq (sSet 8 (eCall F__law_swap (aCons (eVar 6) (aCons (eVar 7) aNil))))
    (sIf (tVal (eOInA true 3 (eVar 8))) (sSeq (sPutG 3 (eVar 8) (eC (.bl true)))
    (sAppend 5 (eVar 8))) sNop))))
    (sFrz 5 (sSet 2 (eVar 5)))))))
    (sRet (eUn oNeg (eC (.int 1)))))))

theorem hF_swapped : ∀ ds Q, F_swapped ds Q → ds.length = 2 ∧ mb_swapped { nx := fun _ => Q .non, rt := Q } (dstart 2 ds) := by
  rintro ds Q ⟨r, p, rfl, hl, hp, hP⟩
  refine ⟨rfl, ?_⟩
  have x1 : atI (r.map dN) (p : Int) = some (dN (r.getD p 0)) := by rw [atI_nat, List.getElem?_map, List.getElem?_eq_getElem (show p < r.length by omega)]; simp [List.getD_eq_getElem?_getD, show p < r.length by omega]
  have x2 : atI (r.map dN) ((p : Int) + 1) = some (dN (r.getD (p + 1) 0)) := by
    have : ((p : Int) + 1) = ((p + 1 : Nat) : Int) := by omega
    rw [this, atI_nat, List.getElem?_map, List.getElem?_eq_getElem hp]; simp [List.getD_eq_getElem?_getD, hp]
  have c1 : cut (r.map dN) none (some (p : Int)) = (r.take p).map dN := by rw [cut_take, List.map_take]
  have c2 : cut (r.map dN) (some ((p : Int) + 2)) none = (r.drop (p + 2)).map dN := by rw [cut_drop' _ _ (by omega), List.map_drop]; rfl
  have e : D.tup ((r.map dN).take p ++ dN (r[p + 1]?.getD 0) :: dN (r[p]?.getD 0) :: (r.map dN).drop (p + 2)) = tN (swp r p) := by simp [swp, tN, List.map_take, List.map_drop, List.getD_eq_getElem?_getD]
  simp [mb_swapped, dstart, x1, x2, c1, c2]
  rw [e]
  exact ⟨by omega, hP⟩
theorem hF__law_swap : ∀ ds Q, F__law_swap ds Q → ds.length = 2 ∧ mb__law_swap { nx := fun _ => Q .non, rt := Q } (dstart 2 ds) := by
  rintro ds Q ⟨r, p, rfl, hl, hp, hP⟩
  refine ⟨rfl, ?_⟩
  have x1 : atI (r.map dN) (p : Int) = some (dN (r.getD p 0)) := by rw [atI_nat, List.getElem?_map, List.getElem?_eq_getElem (show p < r.length by omega)]; simp [List.getD_eq_getElem?_getD, show p < r.length by omega]
  have x2 : atI (r.map dN) ((p : Int) + 1) = some (dN (r.getD (p + 1) 0)) := by
    have : ((p : Int) + 1) = ((p + 1 : Nat) : Int) := by omega
    rw [this, atI_nat, List.getElem?_map, List.getElem?_eq_getElem hp]; simp [List.getD_eq_getElem?_getD, hp]
  have c1 : cut (r.map dN) none (some (p : Int)) = (r.take p).map dN := by rw [cut_take, List.map_take]
  have c2 : cut (r.map dN) (some ((p : Int) + 2)) none = (r.drop (p + 2)).map dN := by rw [cut_drop' _ _ (by omega), List.map_drop]; rfl
  have e : D.tup ((r.map dN).take p ++ dN (r[p + 1]?.getD 0) :: dN (r[p]?.getD 0) :: (r.map dN).drop (p + 2)) = tN (swp r p) := by simp [swp, tN, List.map_take, List.map_drop, List.getD_eq_getElem?_getD]
  simp [mb__law_swap, dstart, x1, x2, c1, c2]
  rw [e]
  exact ⟨by omega, by omega, hP⟩
theorem hF__law_rankingK : ∀ ds Q, F__law_rankingK ds Q → ds.length = 2 ∧ mb__law_rankingK { nx := fun _ => Q .non, rt := Q } (dstart 4 ds) := by
  rintro ds Q ⟨n, rfl, hn, hP⟩
  refine ⟨rfl, ?_⟩
  simp [mb__law_rankingK, dstart]
  refine ⟨by omega, while_ind (fun m env => ∃ L Fo : List Nat, L.length = m ∧ (Fo ++ L).Perm (List.range n) ∧ env = [some (.val .pool), some (.val (dN n)), some (.own (L.map dN)), some (.own (Fo.map dN))]) ?_ n _ ⟨List.range n, [], by simp, List.Perm.refl _, by rw [ints0]; rfl⟩⟩
  rintro m Kk env hK ⟨L, Fo, hm, hp, rfl⟩
  have hlen : Fo.length + L.length = n := by have := hp.length_eq; simpa using this
  by_cases h0 : L.length = 0
  · have : L = [] := List.eq_nil_of_length_eq_zero h0
    subst this
    simp at hp ⊢
    exact ⟨Fo.map fun k : Nat => (k : Int), by rw [List.map_map]; rfl, hP Fo hp⟩
  · have h1 : 0 < L.length := by omega
    simp [h1]
    refine draw_nat L.length rfl h1 (by omega) fun k hk => ?_
    have hx : L[k]? = some L[k] := List.getElem?_eq_getElem hk
    simp [hx, map_eraseIdx']
    refine ⟨by omega, by omega, hK (m - 1) _ (by omega) ⟨L.eraseIdx k, Fo ++ [L[k]], by rw [List.length_eraseIdx_of_lt hk]; omega, ?_, by simp⟩⟩
    refine List.Perm.trans ?_ hp
    rw [List.append_assoc]
    exact (perm_eraseIdx L k _ hx).append_left Fo
abbrev kvB (kn : LL) : List (D × D) := kn.map fun r => (tN r, D.bl true)
theorem nkD_inj02 {a b : List Nat} (h : nkD (tN a) = nkD (tN b)) : a = b := by
  rw [nkD_tN, nkD_tN] at h
  injection h with h
  injection h with h
  exact nums_inj h
theorem isG_02 (l : List Nat) : isG (tN l) = true := by
  show (plain 8 (.tup (l.map dN)) && (match nkD (.tup (l.map dN)) with | some k => decide (k.depth ≤ 8) | none => false)) = true
  have h1 : plain 8 (.tup (l.map dN)) = true := plains_nums 7 l
  have h2 := nkD_tN l
  have h3 := depth_nums l
  rw [h1, show nkD (.tup (l.map dN)) = _ from h2]
  simp [NestedKey.depth]
  omega
theorem gLook_B (q : List Nat) : ∀ kn : LL, (gLook (kvB kn) (tN q)).isSome = decide (q ∈ kn)
  | [] => rfl
  | r :: kn => by
    have ih := gLook_B q kn
    unfold gLook at ih ⊢
    rw [kvB, List.map_cons, List.find?_cons]
    by_cases h : r = q
    · have h1 : decide (nkD (tN r) = nkD (tN q)) = true := decide_eq_true (by rw [h])
      simp only [h1]
      simp [h]
    · have h1 : decide (nkD (tN r) = nkD (tN q)) = false := decide_eq_false fun z => h (nkD_inj02 z)
      simp only [h1]
      rw [ih]
      have : q ≠ r := fun z => h z.symm
      simp [this]
theorem gPut_B {q : List Nat} {kn : LL} (h : q ∉ kn) : gPut (kvB kn) (tN q) (.bl true) = kvB (kn ++ [q]) := by
  unfold gPut
  rw [gLook_B, if_neg (by simpa using h)]
  simp
theorem stP_len (r : List Nat) (ak : LL × LL) (p : Nat) : (stP r ak p).1.length ≤ ak.1.length + 1 ∧ (stP r ak p).2.length ≤ ak.2.length + 1 := by
  unfold stP
  split
  · exact ⟨Nat.le_succ _, Nat.le_succ _⟩
  · simp
theorem stPs_len (r : List Nat) : ∀ (ps : List Nat) (ak : LL × LL), (ps.foldl (stP r) ak).1.length ≤ ak.1.length + ps.length ∧ (ps.foldl (stP r) ak).2.length ≤ ak.2.length + ps.length
  | [], ak => ⟨Nat.le_refl _, Nat.le_refl _⟩
  | p :: ps, ak => by
    have h := stPs_len r ps (stP r ak p)
    have h2 := stP_len r ak p
    rw [List.foldl_cons, List.length_cons]
    omega
theorem stRs_len (n : Nat) : ∀ (rs : LL) (ak : LL × LL), (∀ r ∈ rs, r.length = n) → (rs.foldl stR ak).1.length ≤ ak.1.length + rs.length * n ∧ (rs.foldl stR ak).2.length ≤ ak.2.length + rs.length * n
  | [], ak, _ => by simp
  | r :: rs, ak, h => by
    have h1 := stRs_len n rs (stR ak r) fun r hr => h r (List.mem_cons_of_mem _ hr)
    have h2 := stPs_len r (List.range (r.length - 1)) ak
    have hr := h r (List.mem_cons_self ..)
    rw [List.length_range] at h2
    have e : stR ak r = (List.range (r.length - 1)).foldl (stP r) ak := rfl
    rw [e] at h1
    rw [List.foldl_cons, List.length_cons, Nat.succ_mul, e]
    omega
theorem hF__law_steps_between : ∀ ds Q, F__law_steps_between ds Q → ds.length = 2 ∧ mb__law_steps_between { nx := fun _ => Q .non, rt := Q } (dstart 9 ds) := by
  rintro ds Q ⟨n, a, b, rfl, h0, hn, ha, hb, hP⟩
  refine ⟨rfl, ?_⟩
  simp [mb__law_steps_between, dstart]
  refine ⟨isG_02 a, loop_rng0 20 (fun k env => ∃ e4 e5 e6 e7 e8, k ≤ inv81 a b ∧ env = [some (.val (tN a)), some (.val (tN b)), some (.val (lN (st2 a k).1)), some (.gdi (kvB (st2 a k).2)), e4, e5, e6, e7, e8]) ?_ ?_ _ ⟨none, none, none, none, none, Nat.zero_le _, rfl⟩⟩
  · rintro env ⟨e4, e5, e6, e7, e8, hk, rfl⟩
    have := (st2_ok h0 hn ha hb (k := 0) (by omega)).2.1
    omega
  · rintro k hk Kk env hK ⟨e4, e5, e6, e7, e8, hkv, rfl⟩
    have hk6 : k ≤ 6 := by have := (st2_ok h0 hn ha hb (k := 0) (by omega)).2.1; omega
    obtain ⟨g1, g2, g3, g4, g5⟩ := st2_ok h0 hn ha hb hk6
    have hK' := hK
    have est : st2 a (k + 1) = stL (st2 a k) := rfl
    rw [est] at hK'
    generalize st2 a k = S at g1 g3 g4 g5 hK'
    simp
    refine ⟨isG_02 b, ?_⟩
    have hlk := gLook_B b S.2
    by_cases hbk : b ∈ S.2
    · rw [hlk, if_pos (by simpa using hbk)]
      have e : k = inv81 a b := Nat.le_antisymm hkv (g1.mp hbk)
      rw [e]; exact hP
    · rw [hlk, if_neg (by simpa using hbk)]
      have hk1 : k + 1 ≤ inv81 a b := by
        have hz : ¬ inv81 a b ≤ k := fun z => hbk (g1.mpr z)
        omega
      refine loop_at tN S.1 (fun i env => ∃ e6 e7 e8, env = [some (.val (tN a)), some (.val (tN b)), some (.val (lN S.1)), some (.gdi (kvB ((S.1.take i).foldl stR ([], S.2)).2)), some (.val (dN k)), some (.own (((S.1.take i).foldl stR ([], S.2)).1.map tN)), e6, e7, e8]) ?_ ?_ _ ⟨e6, e7, e8, rfl⟩
      · rintro env ⟨e6, e7, e8, rfl⟩
        rw [List.take_length]
        exact hK' _ ⟨_, _, _, _, _, hk1, rfl⟩
      · rintro i hi K1 env hK1 ⟨e6, e7, e8, rfl⟩
        rw [List.take_succ_eq_append_getElem hi, List.foldl_append, List.foldl_cons, List.foldl_nil] at hK1
        have hrl := g3 _ (List.getElem_mem hi)
        have hbd := stRs_len n (S.1.take i) ([], S.2) fun r hr => g3 r (List.mem_of_mem_take hr)
        rw [List.length_take] at hbd
        have hmn : min i S.1.length * n ≤ 24 * 4 := Nat.mul_le_mul (by omega) hn
        generalize (S.1.take i).foldl stR ([], S.2) = ak at hK1 hbd ⊢
        generalize S.1[i] = r at hK1 hrl ⊢
        have b1 : ak.1.length ≤ 96 := by have := hbd.1; simp at this; omega
        have b2 : ak.2.length ≤ 120 := by have := hbd.2; simp at this; omega
        simp
        refine ⟨by omega, by omega, loop_rng0 (r.length - 1) (fun j env => ∃ e7 e8, env = [some (.val (tN a)), some (.val (tN b)), some (.val (lN S.1)), some (.gdi (kvB ((List.range j).foldl (stP r) ak).2)), some (.val (dN k)), some (.own (((List.range j).foldl (stP r) ak).1.map tN)), some (.val (tN r)), e7, e8]) ?_ ?_ _ ⟨e7, e8, rfl⟩⟩
        · rintro env ⟨e7, e8, rfl⟩
          exact hK1 _ ⟨_, _, _, rfl⟩
        · rintro j hj K2 env hK2 ⟨e7, e8, rfl⟩
          rw [List.range_succ, List.foldl_append, List.foldl_cons, List.foldl_nil] at hK2
          have hc := stPs_len r (List.range j) ak
          rw [List.length_range] at hc
          generalize (List.range j).foldl (stP r) ak = bk at hK2 hc ⊢
          simp
          refine ⟨r, j, rfl, by omega, by omega, isG_02 _, ?_⟩
          have hl2 := gLook_B (swp r j) bk.2
          unfold stP at hK2
          by_cases hm : swp r j ∈ bk.2
          · rw [if_pos hm] at hK2
            have hl3 : (gLook (kvB bk.2) (tN (swp r j))).isSome = true := by rw [hl2]; simpa using hm
            have hl4 : (gLook (kvB bk.2) (tN (swp r j))) ≠ none := fun z => by rw [z] at hl3; cases hl3
            simp [hl3, hl4]
            exact hK2 _ ⟨_, _, rfl⟩
          · rw [if_neg hm] at hK2
            have hl3 : (gLook (kvB bk.2) (tN (swp r j))).isSome = false := by rw [hl2]; simpa using hm
            have hl4 : (gLook (kvB bk.2) (tN (swp r j))) = none := by simpa using hl3
            have hp := gPut_B hm
            simp [hl3, hl4]
            rw [hp]
            refine ⟨isG_02 _, by omega, by omega, ?_⟩
            have hK3 := hK2 _ ⟨some (.val (dN j)), some (.val (tN (swp r j))), rfl⟩
            rw [List.map_append] at hK3
            exact hK3
end DL

set_option Elab.async false
set_option linter.all false
set_option autoImplicit false
set_option maxRecDepth 100000
/-! DM02: law k02. -/
namespace DL
open PySem (Str)
open PySem
/-! ### the number of pairs out of order is the same both ways -/
def prC (r : Nat → Nat → Bool) : List Nat → Nat
  | [] => 0
  | x :: t => t.countP (r x) + prC r t
def S2 (f : Nat → Nat → Bool) (l m : List Nat) : Nat := (l.map fun x => m.countP (f x)).sum
theorem S2_perm {f : Nat → Nat → Bool} {l l' m m' : List Nat} (h : l.Perm l') (h2 : m.Perm m') : S2 f l m = S2 f l' m' := by
  unfold S2
  have e : (fun x => m.countP (f x)) = fun x => m'.countP (f x) := by funext x; exact h2.countP_eq _
  rw [e]
  exact (h.map _).sum_nat
theorem S2_consR (f : Nat → Nat → Bool) (y : Nat) (m : List Nat) : ∀ l : List Nat, S2 f l (y :: m) = S2 f l m + l.countP (fun x => f x y)
  | [] => rfl
  | x :: l => by
    have ih := S2_consR f y m l
    unfold S2 at ih ⊢
    rw [List.map_cons, List.sum_cons, List.map_cons, List.sum_cons, List.countP_cons, List.countP_cons, ih]
    omega
theorem S2_swap (f : Nat → Nat → Bool) : ∀ (l m : List Nat), S2 f l m = S2 (fun x y => f y x) m l
  | [], m => by
    unfold S2
    induction m with
    | nil => rfl
    | cons y m ih => rw [List.map_cons, List.sum_cons, ← ih]; rfl
  | x :: l, m => by
    rw [S2_consR, ← S2_swap f l m]
    unfold S2
    rw [List.map_cons, List.sum_cons]
    exact Nat.add_comm _ _
theorem prC_S2 (p : Nat → Nat) (r : Nat → Nat → Bool) : ∀ a : List Nat, a.Pairwise (fun x y => p x < p y) → prC r a = S2 (fun x y => decide (p x < p y) && r x y) a a
  | [], _ => rfl
  | x :: t, h => by
    obtain ⟨h1, h2⟩ := List.pairwise_cons.mp h
    rw [prC, prC_S2 p r t h2]
    have e : S2 (fun x y => decide (p x < p y) && r x y) (x :: t) (x :: t) = (x :: t).countP (fun y => decide (p x < p y) && r x y) + S2 (fun x y => decide (p x < p y) && r x y) t (x :: t) := rfl
    rw [e, S2_consR]
    have e1 : (x :: t).countP (fun y => decide (p x < p y) && r x y) = t.countP (r x) := by
      rw [List.countP_cons]
      simp only [Nat.lt_irrefl, decide_false, Bool.false_and]
      rw [if_neg (by simp), Nat.add_zero]
      exact List.countP_congr fun y hy => by simp [h1 y hy]
    have e2 : t.countP (fun y => decide (p y < p x) && r y x) = 0 := by
      rw [List.countP_eq_zero]
      intro y hy z
      have := h1 y hy
      rw [Bool.and_eq_true, decide_eq_true_eq] at z
      omega
    rw [e1, e2]; omega
theorem idx_pair {a : List Nat} (h : a.Nodup) : a.Pairwise fun x y => a.idxOf x < a.idxOf y := by
  rw [List.pairwise_iff_getElem]
  intro i j hi hj hij
  rw [h.idxOf_getElem i hi, h.idxOf_getElem j hj]
  exact hij
theorem inv_prC (b : List Nat) : ∀ a : List Nat, inv81 a b = prC (fun x y => decide (b.idxOf y < b.idxOf x)) a := by
  have key : ∀ (a : List Nat) (x i : Nat), ivJ (x :: a) b (i + 1) ((x :: a).length - (i + 2)) = ivJ a b i (a.length - (i + 1)) := fun a x i => by
    unfold ivJ
    rw [List.length_cons, show a.length + 1 - (i + 2) = a.length - (i + 1) by omega]
    congr 1
    refine List.filter_congr fun j _ => ?_
    rw [show i + 1 + 1 + j = (i + 1 + j) + 1 by omega, List.getD_cons_succ, List.getD_cons_succ]
  have hd : ∀ (a : List Nat) (x : Nat), ivJ (x :: a) b 0 a.length = a.countP fun y => decide (b.idxOf y < b.idxOf x) := fun a x => by
    unfold ivJ
    rw [← List.countP_eq_length_filter]
    have e : a = (List.range a.length).map fun j => a.getD j 0 := by
      refine List.ext_getElem (by simp) fun i h1 h2 => ?_
      simp [List.getD_eq_getElem?_getD, h1]
    have e2 : (a.countP fun y => decide (b.idxOf y < b.idxOf x)) = ((List.range a.length).map fun j => a.getD j 0).countP fun y => decide (b.idxOf y < b.idxOf x) := by rw [← e]
    rw [e2, List.countP_map]
    refine List.countP_congr fun j _ => ?_
    simp only [Function.comp]
    rw [show 0 + 1 + j = j + 1 by omega, List.getD_cons_succ, List.getD_cons_zero]
  intro a
  induction a with
  | nil => rfl
  | cons x a ih =>
    rw [prC, ← ih, ← hd]
    unfold inv81 ivI
    rw [List.length_cons, List.range_succ_eq_map, List.map_cons, List.sum_cons, List.map_map]
    congr 1
    congr 1
    refine List.map_congr_left fun i _ => ?_
    exact key a x i
theorem inv_symm {a b : List Nat} (ha : a.Nodup) (hb : b.Nodup) (h : a.Perm b) : inv81 a b = inv81 b a := by
  rw [inv_prC, inv_prC, prC_S2 a.idxOf _ a (idx_pair ha), prC_S2 b.idxOf _ b (idx_pair hb), S2_swap, S2_perm h h]
  congr 1
  funext x y
  rw [Bool.and_comm]
def mb_law_1 : MS :=
  (sFor (iRange1 (eBin oSub (eVar 3) (eC (.int 1)))) (DL.gName 7)
    (sIf (DL.tOr (DL.tNot (tVal (eCall (F__law_same 12) (aCons (eCall F_swapped (aCons (eUnr (eVar 4)) (aCons (eVar 7) aNil))) (aCons (eCall F__law_swap (aCons (eUnr (eVar 4)) (aCons (eVar 7) aNil))) aNil))))) (DL.tNot (tVal (eCall (F__law_same 12) (aCons (eCall F_swapped (aCons (eCall F_swapped (aCons (eUnr (eVar 4)) (aCons (eVar 7) aNil))) (aCons (eVar 7) aNil))) (aCons (eUnr (eVar 4)) aNil)))))) (sRet (eC (.bl false))) sNop))
def mb_law_2 : MS :=
  (sSeq (sIf (DL.tAnd (tVal (eBin oLt (eVar 3) (eC (.int 5)))) (tVal (eBin oNe (eCall F__law_steps_between (aCons (eUnr (eVar 4)) (aCons (eUnr (eVar 5)) aNil))) (eVar 6)))) (sRet (eC (.bl false))) sNop)
    mb_law_1)
def mb_law_3 : MS :=
  (sSeq (sIf (DL.tOr (DL.tNot (tVal (eCall (F__law_same 12) (aCons (eCall F_distanceK (aCons (eVar 4) (aCons (eVar 5) aNil))) (aCons (eVar 6) aNil))))) (DL.tNot (tVal (eCall (F__law_same 12) (aCons (eCall F_distanceK (aCons (eVar 5) (aCons (eVar 4) aNil))) (aCons (eVar 6) aNil)))))) (sRet (eC (.bl false))) sNop)
    mb_law_2)
def mb_law_4 : MS :=
  (sSeq (sSet 6 (eCall F__law_inversionsK (aCons (eVar 4) (aCons (eVar 5) aNil))))
    mb_law_3)
def mb_law_5 : MS :=
  (sSeq (sSet 5 (eIf (tVal (eBin oEq (eCall F__law_draw (aCons (eVar 1) (aCons (eC (.int 6)) aNil))) (eC (.int 0)))) (eVar 4) (eCall F__law_rankingK (aCons (eVar 1) (aCons (eVar 3) aNil)))))
    mb_law_4)
def mb_law_6 : MS :=
  (sSeq (sSet 4 (eCall F__law_rankingK (aCons (eVar 1) (aCons (eVar 3) aNil))))
    mb_law_5)
def mb_law_7 : MS :=
  (sRet (eC (.bl true)))
def mb_law : MS :=
  (sSeq (sFor (iRange1 (eC (.int 4))) (DL.gName 2)
    (sSeq (sSet 3 (eBin oAdd (eC (.int 1)) (eCall F__law_draw (aCons (eVar 1) (aCons (eC (.int 6)) aNil)))))
    mb_law_6))
    mb_law_7)

theorem swp_app (pre post : List Nat) (x y : Nat) : swp (pre ++ x :: y :: post) pre.length = pre ++ y :: x :: post := by
  simp [swp, List.getD_eq_getElem?_getD, List.getElem?_append_right]
theorem swp_swp {r : List Nat} {p : Nat} (h : p + 1 < r.length) : swp (swp r p) p = r := by
  have e : r = r.take p ++ r[p] :: r[p + 1] :: r.drop (p + 2) := by
    have h1 : r.drop p = r[p] :: r.drop (p + 1) := List.drop_eq_getElem_cons (by omega)
    have h2 : r.drop (p + 1) = r[p + 1] :: r.drop (p + 1 + 1) := List.drop_eq_getElem_cons h
    rw [← h2, ← h1, List.take_append_drop]
  generalize r[p] = x at e
  generalize r[p + 1] = y at e
  generalize hp : r.take p = pre at e
  generalize r.drop (p + 2) = post at e
  have hl : pre.length = p := by rw [← hp, List.length_take]; omega
  rw [e, ← hl, swp_app, swp_app]
theorem law_rest (Q : D → Prop) (hQ : Q (.bl true)) : mb_law { nx := fun _ => Q .non, rt := Q } [none, some (.val .pool), none, none, none, none, none, none] := by
  simp [mb_law]
  refine loop_rng0 4 (fun k env => ∃ e2 e3 e4 e5 e6 e7 : Option Sl, env = [none, some (.val .pool), e2, e3, e4, e5, e6, e7]) ?_ ?_ _ ⟨_, _, _, _, _, _, rfl⟩
  · rintro env ⟨e2, e3, e4, e5, e6, e7, rfl⟩
    simp [mb_law_7]
    exact hQ
  · rintro k hk Kk env hK ⟨e2, e3, e4, e5, e6, e7, rfl⟩
    simp
    refine draw_nat 6 rfl (by omega) (by omega) fun z hz => ?_
    have e1 : (1 + (z : Int)) = ((z + 1 : Nat) : Int) := by omega
    simp only [e1]
    have hs4 : ∀ r : List Nat, r.length ≤ 1000 → small 1 (tN r) = true := fun r hr => small_tup 0 (by simp; omega) fun d hd => by obtain ⟨x, _, rfl⟩ := List.mem_map.mp hd; exact small_int 0 _
    have go : ∀ one two : List Nat, one.Perm (List.range (z + 1)) → two.Perm (List.range (z + 1)) → mb_law_4 { nx := Kk, rt := Q, bk := fun e => mb_law_7 { nx := fun x => Q D.non, rt := Q } e, ct := Kk } [none, some (.val .pool), some (.val (dN k)), some (.val (dN (z + 1))), some (.val (rkD one)), some (.val (rkD two)), e6, e7] := fun one two h1 h2 => by
      simp [mb_law_4]
      refine ⟨_, one, two, rfl, unr_rkD one, p2_perm (by omega) h1 h2, ?_⟩
      simp [mb_law_3]
      refine ⟨_, one, two, rfl, unr_rkD one, p2_perm (by omega) h1 h2, same_of 1 (by simp) ?_⟩
      simp
      refine ⟨_, two, one, rfl, unr_rkD two, p2_perm (by omega) h2 h1, ?_⟩
      have hnd : ∀ l : List Nat, l.Perm (List.range (z + 1)) → l.Nodup := fun l h => h.nodup_iff.mpr List.nodup_range
      rw [inv_symm (hnd _ h2) (hnd _ h1) (h2.trans h1.symm)]
      refine same_of 1 (by simp) ?_
      simp [mb_law_2]
      have fin : mb_law_1 { nx := Kk, rt := Q, bk := fun e => mb_law_7 { nx := fun x => Q D.non, rt := Q } e, ct := Kk } [none, some (.val .pool), some (.val (dN k)), some (.val (dN (z + 1))), some (.val (rkD one)), some (.val (rkD two)), some (.val (dN (inv81 one two))), e7] := by
        have hol : one.length = z + 1 := by rw [h1.length_eq, List.length_range]
        simp [mb_law_1]
        refine ⟨by omega, loop_rng0 z (fun j env => ∃ e7, env = [none, some (.val .pool), some (.val (dN k)), some (.val (dN (z + 1))), some (.val (rkD one)), some (.val (rkD two)), some (.val (dN (inv81 one two))), e7]) ?_ ?_ _ ⟨_, rfl⟩⟩
        · rintro env ⟨e7, rfl⟩
          exact hK _ ⟨_, _, _, _, _, _, rfl⟩
        · rintro j hj K2 env hK2 ⟨e7, rfl⟩
          have hsl : ∀ r : List Nat, j + 1 < r.length → (swp r j).length = r.length := fun r h => by simp [swp]; omega
          simp
          refine ⟨one, j, rfl, by omega, by omega, ?_⟩
          refine ⟨one, j, rfl, by omega, by omega, ?_⟩
          refine same_of 1 (hs4 _ (by rw [hsl _ (by omega)]; omega)) ?_
          simp
          refine ⟨one, j, rfl, by omega, by omega, ?_⟩
          refine ⟨swp one j, j, rfl, by rw [hsl _ (by omega)]; omega, by rw [hsl _ (by omega)]; omega, ?_⟩
          rw [swp_swp (by omega)]
          refine same_of 1 (hs4 _ (by omega)) ?_
          simp
          exact hK2 _ ⟨_, rfl⟩
      split
      · rename_i hz5
        refine ⟨z + 1, one, two, rfl, by omega, by omega, rk_perm h1, rk_perm h2, ?_⟩
        refine ⟨by simp, ?_⟩
        rw [if_pos (peq_refl DP _ (by simp))]
        exact fin
      · exact fin
    simp [mb_law_6]
    refine ⟨z + 1, by simp, by omega, fun one h1 => ?_⟩
    simp [mb_law_5]
    refine draw_nat 6 rfl (by omega) (by omega) fun y hy => ?_
    have e2 : (z : Int) + 1 = ((z + 1 : Nat) : Int) := by omega
    rw [e2]
    refine ⟨by simp, ?_⟩
    split
    · exact go one one h1 h1
    · exact ⟨z + 1, rfl, by omega, fun two h2 => go one two h1 h2⟩
end DL

set_option Elab.async false
set_option linter.all false
set_option maxRecDepth 100000
set_option maxHeartbeats 0
namespace DL
open PySem PySem.Spec PyProof.Rows L2 DLH
section
variable {P : Program} {w : World} {K : PySem.W.Frag} {mg : Str → Option Value} {base : Heap} {Tb : Addr → Prop}
theorem ok_place_of (d : Df0 K mg "place_of" s_place_of ["ranking", "constraint"]) (B : Blt mg) : DfOk P w K mg base "place_of" ["ranking", "constraint"] 1 (spD K Tb F_place_ofK) := by
  refine df_ok (N := N_place_of) (mb := mb_place_ofK) d sc_place_of (fun f cdv A outer s H E hr => ?_) hF_place_ofK
  have hu := hr.units
  exact (bv_one (sv_ret (ev_idxK (ev_var (pv 0)) (ev_var (pv 1)))))

theorem ok_swapped (d : Df0 K mg "swapped" s_swapped ["ranking", "place"]) (B : Blt mg) : DfOk P w K mg base "swapped" ["ranking", "place"] 1 (spD K Tb F_swapped) := by
  refine df_ok (N := N_swapped) (mb := mb_swapped) d sc_swapped (fun f cdv A outer s H E hr => ?_) hF_swapped
  have hu := hr.units
  exact (bv_one (sv_ret (ev_tup (av_star (ev_cut (ev_var (pv 0)) po_no (po_at (ev_var (pv 1)))) (av_cons (ev_ix ix_ok (ev_var (pv 0)) (ev_op ov_add (ev_var (pv 1)) ev_int) (fun _ _ => rfl)) (av_cons (ev_ix ix_ok (ev_var (pv 0)) (ev_var (pv 1)) (fun _ _ => rfl)) (av_star (ev_cut (ev_var (pv 0)) (po_at (ev_op ov_add (ev_var (pv 1)) ev_int)) po_no) av_nil)))))))

theorem ok_distance (d : Df0 K mg "distance" s_distance ["one", "two"]) (B : Blt mg) (d_place_of : DfOk P w K mg base "place_of" ["ranking", "constraint"] 1 (spD K Tb F_place_ofK)) : DfOk P w K mg base "distance" ["one", "two"] 2 (spD K Tb F_distanceK) := by
  refine df_ok (N := N_distance) (mb := mb_distanceK) d sc_distance (fun f cdv A outer s H E hr => ?_) hF_distanceK
  have hu := hr.units
  exact (bv_cons (sv_set (i := 2) sc_distance.nd rfl (Or.inl rfl) ev_int)
    (bv_cons (sv_for PassesOwn.never rfl (iv_range1 (by rfl) B.range (ev_callB cv_len (by rfl) B.len boot_len (av_cons (ev_unr (ev_var (pv 0))) av_nil))) (gv_name (i := 3) sc_distance.nd rfl (Or.inl rfl))
    (bv_one (sv_for PassesOwn.never rfl (iv_range2 (by rfl) B.range (ev_op ov_add (ev_var (pv 3)) ev_int) (ev_callB cv_len (by rfl) B.len boot_len (av_cons (ev_unr (ev_var (pv 0))) av_nil))) (gv_name (i := 4) sc_distance.nd rfl (Or.inl rfl))
    (bv_one (sv_if (tv_cmp ov_gt (ev_cl d_place_of hr (by decide) (av_cons (ev_var (pv 1)) (av_cons (ev_ix ix_ok (ev_unr (ev_var (pv 0))) (ev_var (pv 3)) (fun _ _ => rfl)) av_nil))) (ev_cl d_place_of hr (by decide) (av_cons (ev_var (pv 1)) (av_cons (ev_ix ix_ok (ev_unr (ev_var (pv 0))) (ev_var (pv 4)) (fun _ _ => rfl)) av_nil))) (nomark _)) (bv_one (sv_aug (i := 2) sc_distance.nd rfl (Or.inl rfl) ev_int ov_iadd)) bv_nil)))))
    (bv_one (sv_ret (ev_var (pv 2))))))

theorem ok1__law_same (d : Df0 K mg "_law_same" s__law_same ["actual", "due"]) (B : Blt mg) (lv : Nat) (d__law_same : DfOk P w K mg base "_law_same" ["actual", "due"] (lv + 1) (spD K Tb (F__law_same lv))) : DfOk P w K mg base "_law_same" ["actual", "due"] (lv + 1 + 1) (spD K Tb (F__law_same (lv + 1))) := by
  refine df_ok (N := N__law_same) (mb := mb__law_same lv) d sc__law_same (fun f cdv A outer s H E hr => ?_) (hF__law_same lv)
  have hu := hr.units
  exact (bv_cons (sv_if (tw_tv (tw_or (tv_val (ev_isA .tuple (by decide +kernel) (by rfl) B.isinstance (by rfl) B.tuple (ev_var (pv 1)))) (tw_or1 (tv_val (ev_isA .list (by decide +kernel) (by rfl) B.isinstance (by rfl) B.list (ev_var (pv 1))))))) (bv_cons (sv_if (tw_tv (tw_or (tv_cmp (ov_ne hu) (ev_isA .tuple (by decide +kernel) (by rfl) B.isinstance (by rfl) B.tuple (ev_var (pv 1))) (ev_isA .tuple (by decide +kernel) (by rfl) B.isinstance (by rfl) B.tuple (ev_var (pv 0))) (nomark _)) (tw_or1 (tv_cmp (ov_ne hu) (ev_isA .list (by decide +kernel) (by rfl) B.isinstance (by rfl) B.list (ev_var (pv 1))) (ev_isA .list (by decide +kernel) (by rfl) B.isinstance (by rfl) B.list (ev_var (pv 0))) (nomark _))))) (bv_one (sv_ret ev_bl)) bv_nil)
    (bv_cons (sv_if (tv_cmp (ov_ne hu) (ev_callB cv_len (by rfl) B.len boot_len (av_cons (ev_var (pv 0)) av_nil)) (ev_callB cv_len (by rfl) B.len boot_len (av_cons (ev_var (pv 1)) av_nil)) (nomark _)) (bv_one (sv_ret ev_bl)) bv_nil)
    (bv_one (sv_ret (ev_cmp (ov_eq hu) (ev_callB cv_len (by rfl) B.len boot_len (av_cons (ev_fr (fv_lc rfl sc__law_same.nd (iv_range1 (by rfl) B.range (ev_callB cv_len (by rfl) B.len boot_len (av_cons (ev_var (pv 1)) av_nil))) (blkOk_by (own := [("k", 2)]) (N := N__law_same) (sc := defScope s__law_same) (by decide +kernel)) (by decide) (fun _ _ _ _ _ => (gv_name (i := 2) sc__law_same.nd rfl (by first | exact Or.inl rfl | exact Or.inr rfl))) (fun _ _ _ _ _ => (ftv_one (tv_not (tv_val (ev_cl d__law_same hr (by first | exact Nat.le_refl _ | omega) (av_cons (ev_ix ix_ok (ev_var (pv 0)) (ev_var (pv 2)) (fun _ _ => rfl)) (av_cons (ev_ix ix_ok (ev_var (pv 1)) (ev_var (pv 2)) (fun _ _ => rfl)) av_nil))))))) (fun _ _ _ _ _ => (ev_var (pv 2))))) av_nil)) ev_int (nomark _)))))) bv_nil)
    (bv_cons (sv_if (tv_cmp ov_isN (ev_var (pv 1)) ev_non (nomark _)) (bv_one (sv_ret (ev_cmp ov_isN (ev_var (pv 0)) ev_non (nomark _)))) bv_nil)
    (bv_cons (sv_if (tw_tv (tw_or (tv_val (ev_isA .bool (by decide +kernel) (by rfl) B.isinstance (by rfl) B.bool (ev_var (pv 1)))) (tw_or1 (tv_val (ev_isA .bool (by decide +kernel) (by rfl) B.isinstance (by rfl) B.bool (ev_var (pv 0))))))) (bv_one (sv_ret (ev_and (ev_isA .bool (by decide +kernel) (by rfl) B.isinstance (by rfl) B.bool (ev_var (pv 1))) (ev_and (ev_isA .bool (by decide +kernel) (by rfl) B.isinstance (by rfl) B.bool (ev_var (pv 0))) (ev_one (ev_cmp (ov_eq hu) (ev_var (pv 0)) (ev_var (pv 1)) (nomark _))))))) bv_nil)
    (bv_cons (sv_if (tv_val (ev_isA .int (by decide +kernel) (by rfl) B.isinstance (by rfl) B.int (ev_var (pv 1)))) (bv_one (sv_ret (ev_and (ev_isA .int (by decide +kernel) (by rfl) B.isinstance (by rfl) B.int (ev_var (pv 0))) (ev_one (ev_cmp (ov_eq hu) (ev_var (pv 0)) (ev_var (pv 1)) (nomark _)))))) bv_nil)
    (bv_one (sv_ret (ev_and (ev_isA .str (by decide +kernel) (by rfl) B.isinstance (by rfl) B.str (ev_var (pv 0))) (ev_one (ev_cmp (ov_eq hu) (ev_var (pv 0)) (ev_var (pv 1)) (nomark _))))))))))
theorem ok__law_same (d : Df0 K mg "_law_same" s__law_same ["actual", "due"]) (B : Blt mg) : DfOk P w K mg base "_law_same" ["actual", "due"] 13 (spD K Tb (F__law_same 12)) := by
  have key : ∀ lv, DfOk P w K mg base "_law_same" ["actual", "due"] (lv + 1) (spD K Tb (F__law_same lv)) := fun lv => by
    induction lv with
    | zero => exact df_zero d sc__law_same (fun _ _ h => h)
    | succ lv ih =>
      have e : (lv + 1) + 1 = lv + 1 + 1 := by omega
      rw [e]; exact ok1__law_same d B lv ih
  exact key 12

theorem ok__law_pool (d : Df0 K mg "_law_pool" s__law_pool ["script"]) (B : Blt mg) : DfOk P w K mg base "_law_pool" ["script"] 1 (spD K Tb F__law_pool) := by
  refine df_ok (N := N__law_pool) (mb := mb__law_pool) d sc__law_pool (fun f cdv A outer s H E hr => ?_) hF__law_pool
  have hu := hr.units
  exact (bv_cons (sv_set (i := 1) sc__law_pool.nd rfl (Or.inl rfl) ev_int)
    (bv_cons (sv_for PassesOwn.never rfl (iv_seq (ev_cut (ev_var (pv 0)) po_no (po_at ev_int))) (gv_name (i := 2) sc__law_pool.nd rfl (Or.inl rfl))
    (bv_one (sv_set (i := 1) sc__law_pool.nd rfl (Or.inl rfl) (ev_op ov_mod (ev_callTy cv_int (by rfl) B.int (by decide +kernel) (av_cons (ev_op ov_add (ev_op ov_rep1 (ev_var (pv 1)) ev_int) (ev_var (pv 2))) av_nil)) ev_int))))
    (bv_one (sv_ret (ev_fr (fv_lst (av_cons (ev_fr (fv_listOf (by rfl) B.list (ev_var (pv 0)))) (av_cons ev_int (av_cons ev_int (av_cons ev_int (av_cons (ev_var (pv 1)) av_nil)))))))))))

theorem ok__law_spread (d : Df0 K mg "_law_spread" s__law_spread ["cell"]) (B : Blt mg) : DfOk P w K mg base "_law_spread" ["cell"] 1 (spD K Tb F__law_spread) := by
  refine df_ok (N := N__law_spread) (mb := mb__law_spread) d sc__law_spread (fun f cdv A outer s H E hr => ?_) hF__law_spread
  have hu := hr.units
  exact (bv_cons (sv_set (i := 1) sc__law_spread.nd rfl (Or.inl rfl) (ev_op ov_mod (ev_callTy cv_int (by rfl) B.int (by decide +kernel) (av_cons (ev_var (pv 0)) av_nil)) ev_int))
    (bv_cons (sv_set (i := 2) sc__law_spread.nd rfl (Or.inl rfl) ev_int)
    (bv_cons (sv_for PassesOwn.never rfl (iv_range1 (by rfl) B.range ev_int) (gv_name (i := 3) sc__law_spread.nd rfl (Or.inl rfl))
    (bv_cons (sv_set (i := 1) sc__law_spread.nd rfl (Or.inl rfl) (ev_op ov_mod (ev_callTy cv_int (by rfl) B.int (by decide +kernel) (av_cons (ev_op ov_add (ev_op ov_add (ev_op ov_rep1 (ev_var (pv 1)) ev_int) ev_int) (ev_var (pv 3))) av_nil)) ev_int))
    (bv_one (sv_set (i := 2) sc__law_spread.nd rfl (Or.inl rfl) (ev_op ov_add (ev_op ov_rep1 (ev_var (pv 2)) ev_int) (ev_var (pv 1)))))))
    (bv_one (sv_ret (ev_var (pv 2)))))))

theorem ok__law_draw (d : Df0 K mg "_law_draw" s__law_draw ["pool", "many"]) (B : Blt mg) (d__law_spread : DfOk P w K mg base "_law_spread" ["cell"] 1 (spD K Tb F__law_spread)) : DfOk P w K mg base "_law_draw" ["pool", "many"] 2 (spD K Tb F__law_draw) := by
  refine df_ok (N := N__law_draw) (mb := mb__law_draw) d sc__law_draw (fun f cdv A outer s H E hr => ?_) hF__law_draw
  have hu := hr.units
  exact (bv_cons (sv_rdIf (i := 0) (j := 2) sc__law_draw.nd rfl (Or.inl rfl) (tw_tv (tw_and (tv_cmp ov_le (ev_ix ix_ok (ev_var (pv 0)) ev_int (fun _ _ => rfl)) ev_int (nomark _)) (tw_and1 (tv_cmp (ov_lt hu) (ev_ix ix_ok (ev_var (pv 0)) ev_int (fun _ _ => rfl)) (ev_callB cv_len (by rfl) B.len boot_len (av_cons (ev_ix ix_ok (ev_var (pv 0)) ev_int (fun _ _ => rfl)) av_nil)) (nomark _))))) (ev_ix ix_ok (ev_ix ix_ok (ev_var (pv 0)) ev_int (fun _ _ => rfl)) (ev_ix ix_ok (ev_var (pv 0)) ev_int (fun _ _ => rfl)) (fun _ _ => rfl)) (bv_cons (sv_pool (kn := 1) (pv 0) pe_int (ev_rd (i := 0) (ev_op ov_add (ev_ix ix_ok (ev_var (pv 0)) ev_int (fun _ _ => rfl)) ev_int)))
    (bv_cons (sv_pool (kn := 2) (pv 0) pe_int (ev_var (pv 2)))
    (bv_one (sv_if (tv_cmp (ov_lt hu) (ev_var (pv 2)) ev_int (nomark _)) (bv_one (sv_pool (kn := 2) (pv 0) pe_int (ev_cl d__law_spread hr (by decide) (av_cons (ev_var (pv 2)) av_nil)))) bv_nil)))))
    (bv_cons (sv_pool (kn := 3) (pv 0) pe_int (ev_rd (i := 0) (ev_op ov_add (ev_ix ix_ok (ev_var (pv 0)) ev_int (fun _ _ => rfl)) ev_int)))
    (bv_cons (sv_if (tv_rd (i := 0) (tv_cmp ov_le (ev_ix ix_ok (ev_var (pv 0)) ev_int (fun _ _ => rfl)) ev_int (nomark _))) (bv_cons (sv_set (i := 3) sc__law_draw.nd rfl (Or.inl rfl) (ev_rd (i := 0) (ev_op ov_mod (ev_callTy cv_int (by rfl) B.int (by decide +kernel) (av_cons (ev_op ov_add (ev_op ov_add (ev_op ov_rep1 (ev_ix ix_ok (ev_var (pv 0)) ev_int (fun _ _ => rfl)) ev_int) (ev_op ov_rep1 (ev_ix ix_ok (ev_var (pv 0)) ev_int (fun _ _ => rfl)) ev_int)) ev_int) av_nil)) ev_int)))
    (bv_cons (sv_set (i := 3) sc__law_draw.nd rfl (Or.inl rfl) (ev_rd (i := 0) (ev_op ov_mod (ev_callTy cv_int (by rfl) B.int (by decide +kernel) (av_cons (ev_op ov_add (ev_op ov_rep1 (ev_var (pv 3)) ev_int) (ev_ix ix_ok (ev_var (pv 0)) ev_int (fun _ _ => rfl))) av_nil)) ev_int)))
    (bv_one (sv_ret (ev_op ov_mod (ev_op ov_div (ev_var (pv 3)) ev_int) (ev_var (pv 1))))))) bv_nil)
    (bv_cons (sv_set (i := 4) sc__law_draw.nd rfl (Or.inl rfl) (ev_rd (i := 0) (ev_op ov_mod (ev_callTy cv_int (by rfl) B.int (by decide +kernel) (av_cons (ev_ix ix_ok (ev_var (pv 0)) ev_int (fun _ _ => rfl)) av_nil)) (ev_var (pv 1)))))
    (bv_cons (sv_pool (kn := 2) (pv 0) pe_int (ev_rd (i := 0) (ev_op ov_div (ev_ix ix_ok (ev_var (pv 0)) ev_int (fun _ _ => rfl)) (ev_var (pv 1)))))
    (bv_one (sv_ret (ev_var (pv 4)))))))))

theorem ok__law_ranking (d : Df0 K mg "_law_ranking" s__law_ranking ["pool", "size"]) (B : Blt mg) (d__law_draw : DfOk P w K mg base "_law_draw" ["pool", "many"] 2 (spD K Tb F__law_draw)) : DfOk P w K mg base "_law_ranking" ["pool", "size"] 3 (spD K Tb F__law_rankingK) := by
  refine df_ok (N := N__law_ranking) (mb := mb__law_rankingK) d sc__law_ranking (fun f cdv A outer s H E hr => ?_) hF__law_rankingK
  have hu := hr.units
  exact (bv_cons (sv_setOwn (i := 2) sc__law_ranking.nd rfl (Or.inl rfl) (fv_listR1 rfl (by rfl) B.list (by rfl) B.range (ev_var (pv 1))))
    (bv_cons (sv_setOwn (i := 3) sc__law_ranking.nd rfl (Or.inl rfl) (fv_lst av_nil))
    (bv_cons (sv_while PassesOwn.never (tv_cmp ov_gt (ev_olen (pv 2) (by rfl) B.len) ev_int (nomark _))
    (bv_one (sv_append (pv 3) (ev_popAt (pv 2) (ev_cl d__law_draw hr (by decide) (av_cons (ev_var (pv 0)) (av_cons (ev_olen (pv 2) (by rfl) B.len) av_nil)))))))
    (bv_frz 3 (bv_one (sv_ret (ev_callTy cv_tupleK (by rfl) B.tuple (by decide +kernel) (av_cons (ev_var (pv 3)) av_nil))))))))

theorem ok__law_inversions (d : Df0 K mg "_law_inversions" s__law_inversions ["one", "two"]) (B : Blt mg) : DfOk P w K mg base "_law_inversions" ["one", "two"] 1 (spD K Tb F__law_inversionsK) := by
  refine df_ok (N := N__law_inversions) (mb := mb__law_inversionsK) d sc__law_inversions (fun f cdv A outer s H E hr => ?_) hF__law_inversionsK
  have hu := hr.units
  exact (bv_cons (sv_set (i := 2) sc__law_inversions.nd rfl (Or.inl rfl) ev_int)
    (bv_cons (sv_for PassesOwn.never rfl (iv_range1 (by rfl) B.range (ev_callB cv_len (by rfl) B.len boot_len (av_cons (ev_unr (ev_var (pv 0))) av_nil))) (gv_name (i := 3) sc__law_inversions.nd rfl (Or.inl rfl))
    (bv_one (sv_for PassesOwn.never rfl (iv_range2 (by rfl) B.range (ev_op ov_add (ev_var (pv 3)) ev_int) (ev_callB cv_len (by rfl) B.len boot_len (av_cons (ev_unr (ev_var (pv 0))) av_nil))) (gv_name (i := 4) sc__law_inversions.nd rfl (Or.inl rfl))
    (bv_one (sv_if (tv_cmp ov_gt (ev_idxK (ev_var (pv 1)) (ev_ix ix_ok (ev_unr (ev_var (pv 0))) (ev_var (pv 3)) (fun _ _ => rfl))) (ev_idxK (ev_var (pv 1)) (ev_ix ix_ok (ev_unr (ev_var (pv 0))) (ev_var (pv 4)) (fun _ _ => rfl))) (nomark _)) (bv_one (sv_set (i := 2) sc__law_inversions.nd rfl (Or.inl rfl) (ev_op ov_add (ev_var (pv 2)) ev_int))) bv_nil)))))
    (bv_one (sv_ret (ev_var (pv 2))))))

theorem ok__law_swap (d : Df0 K mg "_law_swap" s__law_swap ["ranking", "place"]) (B : Blt mg) : DfOk P w K mg base "_law_swap" ["ranking", "place"] 1 (spD K Tb F__law_swap) := by
  refine df_ok (N := N__law_swap) (mb := mb__law_swap) d sc__law_swap (fun f cdv A outer s H E hr => ?_) hF__law_swap
  have hu := hr.units
  exact (bv_one (sv_ret (ev_op ov_add (ev_op ov_add (ev_cut (ev_var (pv 0)) po_no (po_at (ev_var (pv 1)))) (ev_tup (av_cons (ev_ix ix_ok (ev_var (pv 0)) (ev_op ov_add (ev_var (pv 1)) ev_int) (fun _ _ => rfl)) (av_cons (ev_ix ix_ok (ev_var (pv 0)) (ev_var (pv 1)) (fun _ _ => rfl)) av_nil)))) (ev_cut (ev_var (pv 0)) (po_at (ev_op ov_add (ev_var (pv 1)) ev_int)) po_no))))

theorem ok__law_steps_between (d : Df0 K mg "_law_steps_between" s__law_steps_between ["start", "goal"]) (B : Blt mg) (d__law_swap : DfOk P w K mg base "_law_swap" ["ranking", "place"] 1 (spD K Tb F__law_swap)) : DfOk P w K mg base "_law_steps_between" ["start", "goal"] 2 (spD K Tb F__law_steps_between) := by
  refine df_ok (N := N__law_steps_between) (mb := mb__law_steps_between) d sc__law_steps_between (fun f cdv A outer s H E hr => ?_) hF__law_steps_between
  have hu := hr.units
  exact (bv_cons (sv_set (i := 2) sc__law_steps_between.nd rfl (Or.inl rfl) (ev_fr (fv_lst (av_cons (ev_var (pv 0)) av_nil))))
    (bv_cons (sv_setGd1 (i := 3) sc__law_steps_between.nd rfl (Or.inl rfl) (u20 hr) (ev_var (pv 0)) ev_bl)
    (bv_cons (sv_for PassesOwn.never rfl (iv_range1 (by rfl) B.range ev_int) (gv_name (i := 4) sc__law_steps_between.nd rfl (Or.inl rfl))
    (bv_cons (sv_if (tv_oinA (u20 hr) (pv 3) (ev_var (pv 1)) (by rfl)) (bv_one (sv_ret (ev_var (pv 4)))) bv_nil)
    (bv_cons (sv_setOwn (i := 5) sc__law_steps_between.nd rfl (Or.inl rfl) (fv_lst av_nil))
    (bv_cons (sv_for PassesOwn.never rfl (iv_seq (ev_var (pv 2))) (gv_name (i := 6) sc__law_steps_between.nd rfl (Or.inl rfl))
    (bv_one (sv_for PassesOwn.never rfl (iv_range1 (by rfl) B.range (ev_op ov_sub (ev_callB cv_len (by rfl) B.len boot_len (av_cons (ev_var (pv 6)) av_nil)) ev_int)) (gv_name (i := 7) sc__law_steps_between.nd rfl (Or.inl rfl))
    (bv_cons (sv_set (i := 8) sc__law_steps_between.nd rfl (Or.inl rfl) (ev_cl d__law_swap hr (by decide) (av_cons (ev_var (pv 6)) (av_cons (ev_var (pv 7)) av_nil))))
    (bv_one (sv_if (tv_onotInA (u20 hr) (pv 3) (ev_var (pv 8)) (by rfl)) (bv_cons (sv_putG (u20 hr) (pv 3) (ev_var (pv 8)) ev_bl)
    (bv_one (sv_append (pv 5) (ev_var (pv 8))))) bv_nil))))))
    (bv_frz 5 (bv_one (sv_set (i := 2) sc__law_steps_between.nd rfl (Or.inl rfl) (ev_var (pv 5)))))))))
    (bv_one (sv_ret (ev_un uv_neg ev_int))))))

theorem ok_law {f : Addr} {fd : FuncData} (Fu : FunD K "law" "law" (defArgs s_law) (defBody s_law) (defScope s_law) [] [] f fd) (B : Blt mg) (d__law_pool : DfOk P w K mg base "_law_pool" ["script"] 1 (spD K Tb F__law_pool)) (d__law_ranking : DfOk P w K mg base "_law_ranking" ["pool", "size"] 3 (spD K Tb F__law_rankingK)) (d__law_inversions : DfOk P w K mg base "_law_inversions" ["one", "two"] 1 (spD K Tb F__law_inversionsK)) (d__law_draw : DfOk P w K mg base "_law_draw" ["pool", "many"] 2 (spD K Tb F__law_draw)) (d__law_same : DfOk P w K mg base "_law_same" ["actual", "due"] 13 (spD K Tb (F__law_same 12))) (d__law_steps_between : DfOk P w K mg base "_law_steps_between" ["start", "goal"] 2 (spD K Tb F__law_steps_between)) (d_distance : DfOk P w K mg base "distance" ["one", "two"] 2 (spD K Tb F_distanceK)) (d_swapped : DfOk P w K mg base "swapped" ["ranking", "place"] 1 (spD K Tb F_swapped)) (d__law_swap : DfOk P w K mg base "_law_swap" ["ranking", "place"] 1 (spD K Tb F__law_swap)) : FnOk P w K mg base CX0 14 f fd ["script"] (spLaw K Tb) := by
  refine law_d (N := N_law) (mr := mb_law) Fu sc_law (by decide) (fun cdv A outer s H E _ hr => ⟨fun te p => ps_set (i := 1) sc_law.nd rfl (Or.inl rfl) p, ev_cl d__law_pool hr (by decide) (av_cons (ev_var (pv 0)) av_nil), ?_⟩) law_rest
  have hu := hr.units
  exact (bv_cons (sv_for PassesOwn.never rfl (iv_range1 (by rfl) B.range ev_int) (gv_name (i := 2) sc_law.nd rfl (Or.inl rfl))
    (bv_cons (sv_set (i := 3) sc_law.nd rfl (Or.inl rfl) (ev_op ov_add ev_int (ev_cl d__law_draw hr (by decide) (av_cons (ev_var (pv 1)) (av_cons ev_int av_nil)))))
    (bv_cons (sv_set (i := 4) sc_law.nd rfl (Or.inl rfl) (ev_cl d__law_ranking hr (by decide) (av_cons (ev_var (pv 1)) (av_cons (ev_var (pv 3)) av_nil))))
    (bv_cons (sv_set (i := 5) sc_law.nd rfl (Or.inl rfl) (ev_if (tv_cmp (ov_eq hu) (ev_cl d__law_draw hr (by decide) (av_cons (ev_var (pv 1)) (av_cons ev_int av_nil))) ev_int (nomark _)) (ev_var (pv 4)) (ev_cl d__law_ranking hr (by decide) (av_cons (ev_var (pv 1)) (av_cons (ev_var (pv 3)) av_nil)))))
    (bv_cons (sv_set (i := 6) sc_law.nd rfl (Or.inl rfl) (ev_cl d__law_inversions hr (by decide) (av_cons (ev_var (pv 4)) (av_cons (ev_var (pv 5)) av_nil))))
    (bv_cons (sv_if (tw_tv (tw_or (tv_not (tv_val (ev_cl d__law_same hr (by decide) (av_cons (ev_cl d_distance hr (by decide) (av_cons (ev_var (pv 4)) (av_cons (ev_var (pv 5)) av_nil))) (av_cons (ev_var (pv 6)) av_nil))))) (tw_or1 (tv_not (tv_val (ev_cl d__law_same hr (by decide) (av_cons (ev_cl d_distance hr (by decide) (av_cons (ev_var (pv 5)) (av_cons (ev_var (pv 4)) av_nil))) (av_cons (ev_var (pv 6)) av_nil)))))))) (bv_one (sv_ret ev_bl)) bv_nil)
    (bv_cons (sv_if (tw_tv (tw_and (tv_cmp (ov_lt hu) (ev_var (pv 3)) ev_int (nomark _)) (tw_and1 (tv_cmp (ov_ne hu) (ev_cl d__law_steps_between hr (by decide) (av_cons (ev_unr (ev_var (pv 4))) (av_cons (ev_unr (ev_var (pv 5))) av_nil))) (ev_var (pv 6)) (nomark _))))) (bv_one (sv_ret ev_bl)) bv_nil)
    (bv_one (sv_for PassesOwn.never rfl (iv_range1 (by rfl) B.range (ev_op ov_sub (ev_var (pv 3)) ev_int)) (gv_name (i := 7) sc_law.nd rfl (Or.inl rfl))
    (bv_one (sv_if (tw_tv (tw_or (tv_not (tv_val (ev_cl d__law_same hr (by decide) (av_cons (ev_cl d_swapped hr (by decide) (av_cons (ev_unr (ev_var (pv 4))) (av_cons (ev_var (pv 7)) av_nil))) (av_cons (ev_cl d__law_swap hr (by decide) (av_cons (ev_unr (ev_var (pv 4))) (av_cons (ev_var (pv 7)) av_nil))) av_nil))))) (tw_or1 (tv_not (tv_val (ev_cl d__law_same hr (by decide) (av_cons (ev_cl d_swapped hr (by decide) (av_cons (ev_cl d_swapped hr (by decide) (av_cons (ev_unr (ev_var (pv 4))) (av_cons (ev_var (pv 7)) av_nil))) (av_cons (ev_var (pv 7)) av_nil))) (av_cons (ev_unr (ev_var (pv 4))) av_nil)))))))) (bv_one (sv_ret ev_bl)) bv_nil)))))))))))
    (bv_one (sv_ret ev_bl)))
end
theorem facts {P : Program} {w : World} {K : PySem.W.Frag} {h : Heap} {mg : Str → Option Value} {f : Addr} (X : K.In h) (G : h.Ns mainGlobals mg) (hfa : mg ("law" : Str) = some (.ref f)) (c : He.SaysD fa fn K) :
    ∃ fd : FuncData, (∀ (s : Shared) (v : Value), BindsTo s fd ⟨[v], []⟩ [("script", v)]) ∧ ∀ base : Heap, K.In base → base.Ns mainGlobals mg → FnOk P w K mg base CX0 14 f fd ["script"] (spLaw K (fun _ => False)) := by
  have B : Blt mg := ⟨He.free_ok X G (c.fact 12 (f := .free "len") rfl), He.free_ok X G (c.fact 13 (f := .free "range") rfl), He.free_ok X G (c.fact 14 (f := .free "isinstance") rfl), He.free_ok X G (c.fact 15 (f := .free "int") rfl), He.free_ok X G (c.fact 16 (f := .free "bool") rfl), He.free_ok X G (c.fact 17 (f := .free "str") rfl), He.free_ok X G (c.fact 18 (f := .free "tuple") rfl), He.free_ok X G (c.fact 19 (f := .free "list") rfl), He.free_ok X G (c.fact 20 (f := .free "sorted") rfl), He.free_ok X G (c.fact 21 (f := .free "min") rfl), He.free_ok X G (c.fact 22 (f := .free "max") rfl), He.free_ok X G (c.fact 23 (f := .free "sum") rfl), He.free_ok X G (c.fact 24 (f := .free "any") rfl), He.free_ok X G (c.fact 25 (f := .free "all") rfl), He.free_ok X G (c.fact 26 (f := .free "zip") rfl), He.free_ok X G (c.fact 27 (f := .free "enumerate") rfl), He.free_ok X G (c.fact 28 (f := .free "reversed") rfl), He.free_ok X G (c.fact 29 (f := .free "set") rfl), He.free_ok X G (c.fact 30 (f := .free "repr") rfl), He.free_ok X G (c.fact 31 (f := .free "dict") rfl), He.free_ok X G (c.fact 32 (f := .free "abs") rfl)⟩
  have e_place_of : Df0 K mg "place_of" s_place_of ["ranking", "constraint"] := by
    obtain ⟨fd, F⟩ := c.def_ 0 (d := dd "place_of" s_place_of) rfl
    exact ⟨_, fd, F, He.glo_ok X G (c.fact 0 (f := .glo "place_of") rfl), F.bindsN (ps := ["ranking", "constraint"]) fun _ _ _ _ _ _ us hl => match us, hl with | [_, _], _ => rfl⟩
  have e_swapped : Df0 K mg "swapped" s_swapped ["ranking", "place"] := by
    obtain ⟨fd, F⟩ := c.def_ 1 (d := dd "swapped" s_swapped) rfl
    exact ⟨_, fd, F, He.glo_ok X G (c.fact 1 (f := .glo "swapped") rfl), F.bindsN (ps := ["ranking", "place"]) fun _ _ _ _ _ _ us hl => match us, hl with | [_, _], _ => rfl⟩
  have e_distance : Df0 K mg "distance" s_distance ["one", "two"] := by
    obtain ⟨fd, F⟩ := c.def_ 2 (d := dd "distance" s_distance) rfl
    exact ⟨_, fd, F, He.glo_ok X G (c.fact 2 (f := .glo "distance") rfl), F.bindsN (ps := ["one", "two"]) fun _ _ _ _ _ _ us hl => match us, hl with | [_, _], _ => rfl⟩
  have e__law_same : Df0 K mg "_law_same" s__law_same ["actual", "due"] := by
    obtain ⟨fd, F⟩ := c.def_ 3 (d := dd "_law_same" s__law_same) rfl
    exact ⟨_, fd, F, He.glo_ok X G (c.fact 3 (f := .glo "_law_same") rfl), F.bindsN (ps := ["actual", "due"]) fun _ _ _ _ _ _ us hl => match us, hl with | [_, _], _ => rfl⟩
  have e__law_pool : Df0 K mg "_law_pool" s__law_pool ["script"] := by
    obtain ⟨fd, F⟩ := c.def_ 4 (d := dd "_law_pool" s__law_pool) rfl
    exact ⟨_, fd, F, He.glo_ok X G (c.fact 4 (f := .glo "_law_pool") rfl), F.bindsN (ps := ["script"]) fun _ _ _ _ _ _ us hl => match us, hl with | [_], _ => rfl⟩
  have e__law_spread : Df0 K mg "_law_spread" s__law_spread ["cell"] := by
    obtain ⟨fd, F⟩ := c.def_ 5 (d := dd "_law_spread" s__law_spread) rfl
    exact ⟨_, fd, F, He.glo_ok X G (c.fact 5 (f := .glo "_law_spread") rfl), F.bindsN (ps := ["cell"]) fun _ _ _ _ _ _ us hl => match us, hl with | [_], _ => rfl⟩
  have e__law_draw : Df0 K mg "_law_draw" s__law_draw ["pool", "many"] := by
    obtain ⟨fd, F⟩ := c.def_ 6 (d := dd "_law_draw" s__law_draw) rfl
    exact ⟨_, fd, F, He.glo_ok X G (c.fact 6 (f := .glo "_law_draw") rfl), F.bindsN (ps := ["pool", "many"]) fun _ _ _ _ _ _ us hl => match us, hl with | [_, _], _ => rfl⟩
  have e__law_ranking : Df0 K mg "_law_ranking" s__law_ranking ["pool", "size"] := by
    obtain ⟨fd, F⟩ := c.def_ 7 (d := dd "_law_ranking" s__law_ranking) rfl
    exact ⟨_, fd, F, He.glo_ok X G (c.fact 7 (f := .glo "_law_ranking") rfl), F.bindsN (ps := ["pool", "size"]) fun _ _ _ _ _ _ us hl => match us, hl with | [_, _], _ => rfl⟩
  have e__law_inversions : Df0 K mg "_law_inversions" s__law_inversions ["one", "two"] := by
    obtain ⟨fd, F⟩ := c.def_ 8 (d := dd "_law_inversions" s__law_inversions) rfl
    exact ⟨_, fd, F, He.glo_ok X G (c.fact 8 (f := .glo "_law_inversions") rfl), F.bindsN (ps := ["one", "two"]) fun _ _ _ _ _ _ us hl => match us, hl with | [_, _], _ => rfl⟩
  have e__law_swap : Df0 K mg "_law_swap" s__law_swap ["ranking", "place"] := by
    obtain ⟨fd, F⟩ := c.def_ 9 (d := dd "_law_swap" s__law_swap) rfl
    exact ⟨_, fd, F, He.glo_ok X G (c.fact 9 (f := .glo "_law_swap") rfl), F.bindsN (ps := ["ranking", "place"]) fun _ _ _ _ _ _ us hl => match us, hl with | [_, _], _ => rfl⟩
  have e__law_steps_between : Df0 K mg "_law_steps_between" s__law_steps_between ["start", "goal"] := by
    obtain ⟨fd, F⟩ := c.def_ 10 (d := dd "_law_steps_between" s__law_steps_between) rfl
    exact ⟨_, fd, F, He.glo_ok X G (c.fact 10 (f := .glo "_law_steps_between") rfl), F.bindsN (ps := ["start", "goal"]) fun _ _ _ _ _ _ us hl => match us, hl with | [_, _], _ => rfl⟩
  obtain ⟨fd, F⟩ := c.def_ 11 (d := dd "law" s_law) rfl
  have e := hfa.symm.trans (He.glo_ok X G (c.fact 11 (f := .glo "law") rfl))
  cases e
  have b := FunD.bindsA (ps := ["script"]) F fun _ _ _ _ _ _ us hl => match us, hl with | [_], _ => rfl
  refine ⟨fd, fun s v => b s [v] rfl, fun base _ _ => ?_⟩
  have d_place_of : DfOk P w K mg base "place_of" ["ranking", "constraint"] 1 (spD K (fun _ => False) F_place_ofK) := ok_place_of e_place_of B
  have d_swapped : DfOk P w K mg base "swapped" ["ranking", "place"] 1 (spD K (fun _ => False) F_swapped) := ok_swapped e_swapped B
  have d_distance : DfOk P w K mg base "distance" ["one", "two"] 2 (spD K (fun _ => False) F_distanceK) := ok_distance e_distance B d_place_of
  have d__law_same : DfOk P w K mg base "_law_same" ["actual", "due"] 13 (spD K (fun _ => False) (F__law_same 12)) := ok__law_same e__law_same B
  have d__law_pool : DfOk P w K mg base "_law_pool" ["script"] 1 (spD K (fun _ => False) F__law_pool) := ok__law_pool e__law_pool B
  have d__law_spread : DfOk P w K mg base "_law_spread" ["cell"] 1 (spD K (fun _ => False) F__law_spread) := ok__law_spread e__law_spread B
  have d__law_draw : DfOk P w K mg base "_law_draw" ["pool", "many"] 2 (spD K (fun _ => False) F__law_draw) := ok__law_draw e__law_draw B d__law_spread
  have d__law_ranking : DfOk P w K mg base "_law_ranking" ["pool", "size"] 3 (spD K (fun _ => False) F__law_rankingK) := ok__law_ranking e__law_ranking B d__law_draw
  have d__law_inversions : DfOk P w K mg base "_law_inversions" ["one", "two"] 1 (spD K (fun _ => False) F__law_inversionsK) := ok__law_inversions e__law_inversions B
  have d__law_swap : DfOk P w K mg base "_law_swap" ["ranking", "place"] 1 (spD K (fun _ => False) F__law_swap) := ok__law_swap e__law_swap B
  have d__law_steps_between : DfOk P w K mg base "_law_steps_between" ["start", "goal"] 2 (spD K (fun _ => False) F__law_steps_between) := ok__law_steps_between e__law_steps_between B d__law_swap
  exact ok_law F B d__law_pool d__law_ranking d__law_inversions d__law_draw d__law_same d__law_steps_between d_distance d_swapped d__law_swap
end DL
open PySem PySem.W PySem.Calls PyProof.Rows
theorem PySem.Challenge.cw_leastmarked_k02_whole_distances_holds : PySem.Challenge.rw_leastmarked_k02_whole_distances.Holds := by
  w_on; o_law
  refine HandSHeadRun.head_any (r := OpenLaw.row PySem.Challenge.rw_leastmarked_k02_whole_distances) (q := view (OpenLaw.row PySem.Challenge.rw_leastmarked_k02_whole_distances).prog [13]) (H := DLH.hk) (ob := DLH.ob) (M := 2800) (loose := DLH.loose) (d := HandSHeadRun.topDef (OpenLaw.row PySem.Challenge.rw_leastmarked_k02_whole_distances).prog 13) (kwd := []) DLH.ob_eq
    (by kernel_rfl) (fun s => by kernel_rfl) DLH.run (by kernel_rfl) (by kernel_rfl) (by kernel_rfl) (by rfl) (by first | assumption | decide +kernel) (by decide +kernel) ⟨rfl, rfl, rfl, rfl, rfl, by decide +kernel⟩ ?hw ?hc
  case hw => w_witness2
  case hc =>
    refine L2.walk_ofE (l := PySem.Challenge.rw_leastmarked_k02_whole_distances) (n := 63) (k := 14) (x := "script") (CX := L2.CX0) rfl (by decide) (by kernel_rfl) ⟨rfl, by decide, by decide⟩ ?F (fun _ _ _ _ z => z)
    intro w mg fa h Y G hmg0
    obtain ⟨K, KX, c⟩ := Y
    have hmg : mg ("law" : PySem.Str) = some (.ref fa) := by
      have e : (HandSHeadRun.topDef (OpenLaw.row PySem.Challenge.rw_leastmarked_k02_whole_distances).prog 13).name = ("law" : PySem.Str) := by kernel_rfl
      rw [← e]
      exact hmg0
    obtain ⟨fd, hb, hF⟩ := DL.facts (P := (PySem.Challenge.rw_leastmarked_k02_whole_distances).prog) (w := w) KX G hmg c
    exact ⟨K, fd, DL.spLaw K fun _ => False, KX, hb, fun H a ns hl _ hS => ⟨a, ns, rfl, hS, fun _ z => z.elim, fun _ => rfl⟩, hF⟩
