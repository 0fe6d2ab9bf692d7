import PyProof.Rows.All
import PyProof.ReprReads
import KE.DataEq
import PyProof.Rows.Walk
import Wide.All
import OpenK.AllK
import Wide.FinOn
import HandS.ForMost
import HandS.Exc
import HandS.ExcOwn
import HandS.TryOnly
import HandS.WordsExc
import HandS.Wide
import HandS.EndBits
import HandS.TupAny
import HandS.FStr
import HandS.RaiseMore
import HandS.Zip
import PyProof.ReprLen
import PyProof.Rows.ReprOcc
import PySem.Challenge.RW_allwatched_k01_ratios
set_option Elab.async false
set_option linter.all false
/-! Dl: a language of data. What a piece of the program asks and gives, over plain data (PyData): no heap, no addresses.
    A slot holds data that nobody changes any more (sh), a list or dict of the frame's own that it may change (ow), or one that its caller lent it (bo). -/
namespace Dl
open PySem
set_option autoImplicit false
abbrev D := PyData
/-- the script: a list that is only read -/
def scrD (ds : List D) : D := .dict [(.none, .list ds)]
inductive EV where
  | sh (d : D) | ow (d : D) | bo (d : D)
abbrev Env := List (Option EV)
def EV.dat : EV → D
  | .sh d => d | .ow d => d | .bo d => d
/-- the errors of the program -/
inductive Exc where
  | refused | large | missing | form (line : Int) | broken (name : Str)
abbrev E0d : Exc → Prop := fun _ => False
abbrev KE := D → Bool → Env → Prop
abbrev WE := Env → KE → Prop
abbrev WT := Env → (Bool → Env → Prop) → Prop
abbrev WA := Env → (List D → Env → Prop) → Prop
abbrev WI := Env → (List D → Env → Prop) → Prop
structure Po where
  nx : Env → Prop
  rt : KE
  bk : Env → Prop := fun _ => False
  ct : Env → Prop := fun _ => False
abbrev WS := Po → Env → Prop
abbrev WG := D → Bool → Env → (Env → Prop) → Prop
/-- a def: arguments, what is wanted of its answer (with what lent objects are now), of its error -/
abbrev Con := List D → (D → Bool → List D → Prop) → (Exc → Prop) → Prop
abbrev O1 := D → (D → Bool → Prop) → Prop
abbrev O2 := D → D → (D → Bool → Prop) → Prop
abbrev LIM : Nat := 16777216

/-! ### expressions -/
def rdE (ρ : Env) (i : Nat) : Option D := match ρ[i]? with
  | some (some e) => some e.dat
  | _ => none
def wC (d : D) : WE := fun ρ Q => Q d false ρ
/-- a name, its object handed on: it is changed no more -/
def wV (i : Nat) : WE := fun ρ Q => match ρ[i]? with
  | some (some (.sh d)) => Q d false ρ
  | some (some (.ow d)) => Q d false (ρ.set i (some (.sh d)))
  | _ => False
def wO (o : O1) (a : WE) : WE := fun ρ Q => a ρ fun d _ ρ1 => o d fun r f => Q r f ρ1
/-- .. of a name, only looked at -/
def wOP (o : O1) (i : Nat) : WE := fun ρ Q => match rdE ρ i with
  | some d => o d fun r f => Q r f ρ
  | none => False
def wB (o : O2) (a b : WE) : WE := fun ρ Q => a ρ fun d _ ρ1 => b ρ1 fun e _ ρ2 => o d e fun r f => Q r f ρ2
def wBL (o : O2) (i : Nat) (b : WE) : WE := fun ρ Q => (rdE ρ i).isSome = true ∧ b ρ fun e _ ρ1 => match rdE ρ1 i with
  | some d => o d e fun r f => Q r f ρ1
  | none => False
def wBR (o : O2) (a : WE) (i : Nat) : WE := fun ρ Q => a ρ fun d _ ρ1 => match rdE ρ1 i with
  | some e => o d e fun r f => Q r f ρ1
  | none => False
def wBB (o : O2) (i j : Nat) : WE := fun ρ Q => match rdE ρ i, rdE ρ j with
  | some d, some e => o d e fun r f => Q r f ρ
  | _, _ => False
def wNil : WA := fun ρ Q => Q [] ρ
def wCons (a : WE) (t : WA) : WA := fun ρ Q => a ρ fun d _ ρ1 => t ρ1 fun ds ρ2 => Q (d :: ds) ρ2
def wTup (t : WA) : WE := fun ρ Q => t ρ fun ds ρ1 => ds.length ≤ LIM ∧ Q (.tuple ds) false ρ1
def wLst (t : WA) : WE := fun ρ Q => t ρ fun ds ρ1 => ds.length ≤ LIM ∧ Q (.list ds) true ρ1
/-- a built-in over evaluated arguments -/
abbrev OA := List D → (D → Bool → Prop) → Prop
def wF (o : OA) (t : WA) : WE := fun ρ Q => t ρ fun ds ρ1 => o ds fun r f => Q r f ρ1
def wCall (C : Con) (E : Exc → Prop) (t : WA) : WE := fun ρ Q => t ρ fun ds ρ1 => C ds (fun r f _ => Q r f ρ1) E
/-- the first argument is slot i's object, lent -/
def wCallB (C : Con) (E : Exc → Prop) (i : Nat) (t : WA) : WE := fun ρ Q => (rdE ρ i).isSome = true ∧ t ρ fun ds ρ1 => match ρ1[i]? with
  | some (some (.ow d)) => C (d :: ds) (fun r f bs => ∃ d', bs = [d'] ∧ Q r f (ρ1.set i (some (.ow d')))) E
  | some (some (.bo d)) => C (d :: ds) (fun r f bs => ∃ d', bs = [d'] ∧ Q r f (ρ1.set i (some (.bo d')))) E
  | _ => False
/-! ### tests -/
def wTv (e : WE) : WT := fun ρ Q => e ρ fun d _ ρ1 => ∃ b, d = .bool b ∧ Q b ρ1
def wAnd (a b : WT) : WT := fun ρ Q => a ρ fun c ρ1 => (c = true → b ρ1 Q) ∧ (c = false → Q false ρ1)
def wOr (a b : WT) : WT := fun ρ Q => a ρ fun c ρ1 => (c = true → Q true ρ1) ∧ (c = false → b ρ1 Q)
def wNot (a : WT) : WT := fun ρ Q => a ρ fun c ρ1 => Q (!c) ρ1
def wAndV (a b : WE) : WE := fun ρ Q => a ρ fun d _ ρ1 => ∃ c, d = .bool c ∧ (c = true → b ρ1 Q) ∧ (c = false → Q (.bool false) false ρ1)
def wOrV (a b : WE) : WE := fun ρ Q => a ρ fun d _ ρ1 => ∃ c, d = .bool c ∧ (c = true → Q (.bool true) false ρ1) ∧ (c = false → b ρ1 Q)
def wNotV (a : WE) : WE := fun ρ Q => a ρ fun d _ ρ1 => ∃ c, d = .bool c ∧ Q (.bool (!c)) false ρ1
def wIf (t : WT) (a b : WE) : WE := fun ρ Q => t ρ fun c ρ1 => (c = true → a ρ1 Q) ∧ (c = false → b ρ1 Q)
/-- a op b op' c -/
def wChain (o o' : O2) (a b c : WE) : WE := fun ρ Q => a ρ fun d _ ρ1 => b ρ1 fun e _ ρ2 => o d e fun r _ => ∃ k, r = .bool k ∧
  (k = true → c ρ2 fun g _ ρ3 => o' e g fun r' f' => Q r' f' ρ3) ∧ (k = false → Q (.bool false) false ρ2)
/-! ### statements -/
def wNext : WS := fun P ρ => P.nx ρ
def wSeq (s t : WS) : WS := fun P ρ => s { P with nx := t P } ρ
def wBreak : WS := fun P ρ => P.bk ρ
def wCont : WS := fun P ρ => P.ct ρ
def wDrop (e : WE) : WS := fun P ρ => e ρ fun _ _ ρ1 => P.nx ρ1
def wRet (e : WE) : WS := fun P ρ => e ρ P.rt
def wRetV (i : Nat) : WS := fun P ρ => match ρ[i]? with
  | some (some (.sh d)) => P.rt d false ρ
  | some (some (.ow d)) => P.rt d true (ρ.set i none)
  | _ => False
def wRetN : WS := fun P ρ => P.rt .none false ρ
def wIfS (t : WT) (a b : WS) : WS := fun P ρ => t ρ fun c ρ1 => (c = true → a P ρ1) ∧ (c = false → b P ρ1)
def wNever : WS := fun _ _ => False
def wRaise (E : Exc → Prop) (x : Exc) : WS := fun _ _ => E x
/-! ### targets -/
def setE (ρ : Env) (i : Nat) (d : D) (f : Bool) : Env := ρ.set i (some (if f then .ow d else .sh d))
def free (ρ : Env) (i : Nat) : Prop := match ρ[i]? with
  | some (some (.bo _)) => False
  | some _ => True
  | none => False
def gN (i : Nat) : WG := fun d f ρ Q => free ρ i ∧ Q (setE ρ i d f)
abbrev WGs := List D → Env → (Env → Prop) → Prop
def gNil : WGs := fun ds ρ Q => ds = [] ∧ Q ρ
def gCons (g : WG) (r : WGs) : WGs := fun ds ρ Q => ∃ d t, ds = d :: t ∧ g d false ρ fun ρ1 => r t ρ1 Q
def gTup (n : Nat) (r : WGs) : WG := fun d _ ρ Q => ∃ ds, d = .tuple ds ∧ ds.length = n ∧ r ds ρ Q
/-- the place of an index in a sequence of n -/
def ixD (n : Nat) (i : Int) : Option Nat := if 0 ≤ i then (if i < n then some i.toNat else none) else if -(n : Int) ≤ i then some (i + n).toNat else none
/-- x[e] = value -/
def gIx (x : Nat) (e : WE) : WG := fun d _ ρ Q => (rdE ρ x).isSome = true ∧ e ρ fun di _ ρ1 => ∃ xs i j, di = .int i ∧
  ((ρ1[x]? = some (some (.ow (.list xs))) ∧ ixD xs.length i = some j ∧ Q (ρ1.set x (some (.ow (.list (xs.set j d)))))) ∨
   (ρ1[x]? = some (some (.bo (.list xs))) ∧ ixD xs.length i = some j ∧ Q (ρ1.set x (some (.bo (.list (xs.set j d)))))))
def wAsg (e : WE) (g : WG) : WS := fun P ρ => e ρ fun d f ρ1 => g d f ρ1 P.nx
def wPar (i j : Nat) (a b : WE) : WS := fun P ρ => a ρ fun d _ ρ1 => b ρ1 fun e _ ρ2 => free ρ2 i ∧ free ρ2 j ∧ P.nx (setE (setE ρ2 i d false) j e false)
def isL (ρ : Env) (x : Nat) : Prop := match rdE ρ x with
  | some (.list _) => True
  | _ => False
/-- x.append(e) -/
def wApp (x : Nat) (e : WE) : WS := fun P ρ => isL ρ x ∧ e ρ fun d _ ρ1 => ∃ xs, xs.length < LIM ∧
  ((ρ1[x]? = some (some (.ow (.list xs))) ∧ P.nx (ρ1.set x (some (.ow (.list (xs ++ [d])))))) ∨
   (ρ1[x]? = some (some (.bo (.list xs))) ∧ P.nx (ρ1.set x (some (.bo (.list (xs ++ [d])))))))
/-! ### loops -/
def forGo (g : WG) (body : WS) (P : Po) : List D → Env → Prop
  | [], ρ => P.nx ρ
  | x :: xs, ρ => g x false ρ fun ρ1 => body { P with nx := forGo g body P xs, ct := forGo g body P xs, bk := P.nx } ρ1
def wFor (it : WI) (g : WG) (body : WS) : WS := fun P ρ => it ρ fun xs ρ1 => forGo g body P xs ρ1
def wWhile (t : WT) (body : WS) : WS := fun P ρ => ∃ W : Nat → Env → Prop, (∃ m, W m ρ) ∧ ∀ m ρ1, W m ρ1 → t ρ1 fun b ρ2 =>
  (b = true → body { P with nx := fun ρ3 => ∃ m', m' < m ∧ W m' ρ3, ct := fun ρ3 => ∃ m', m' < m ∧ W m' ρ3, bk := P.nx } ρ2) ∧ (b = false → P.nx ρ2)
/-! ### what is walked -/
def itS (e : WE) : WI := fun ρ Q => e ρ fun d _ ρ1 => ∃ xs, (d = .list xs ∨ d = .tuple xs) ∧ Q xs ρ1
def rangeL (lo : Int) (n : Nat) : List D := (List.range n).map fun k => .int (lo + (k : Nat))
def itR1 (e : WE) : WI := fun ρ Q => e ρ fun d _ ρ1 => ∃ n : Int, d = .int n ∧ -4611686018427387904 ≤ n ∧ n < 4611686018427387904 ∧ Q (rangeL 0 n.toNat) ρ1
def itR2 (a b : WE) : WI := fun ρ Q => a ρ fun d _ ρ1 => b ρ1 fun e _ ρ2 => ∃ m n : Int, d = .int m ∧ e = .int n ∧
  (-4611686018427387904 ≤ m ∧ m < 4611686018427387904 ∧ -4611686018427387904 ≤ n ∧ n < 4611686018427387904) ∧ Q (rangeL m (n - m).toNat) ρ2
/-! ### comprehensions -/
def wipeE (ρ : Env) : List Nat → Env
  | [] => ρ
  | v :: vs => (wipeE ρ vs).set v none
def backE (ρ0 ρ : Env) : List Nat → Env
  | [] => ρ
  | v :: vs => (backE ρ0 ρ vs).set v (ρ0[v]?.getD none)
def lcGo (g : WG) (t : WT) (e : WE) (vs : List Nat) (Q : List D → Env → Prop) : List D → List D → Env → Prop
  | [], acc, ρ => Q acc ρ
  | x :: xs, acc, ρ => g x false ρ fun ρ1 => t ρ1 fun b ρ2 =>
    (b = true → e ρ2 fun d _ ρ3 => lcGo g t e vs Q xs (acc ++ [d]) (wipeE ρ3 vs)) ∧ (b = false → lcGo g t e vs Q xs acc (wipeE ρ2 vs))
def tYes : WT := fun ρ Q => Q true ρ
def frees (ρ : Env) : List Nat → Prop
  | [] => True
  | v :: vs => free ρ v ∧ frees ρ vs
def wLc (it : WI) (g : WG) (t : WT) (e : WE) (vs : List Nat) : WE := fun ρ Q => it ρ fun xs ρ1 => xs.length ≤ LIM ∧ frees ρ1 vs ∧
  lcGo g t e vs (fun acc ρ2 => Q (.list acc) true (backE ρ1 ρ2 vs)) xs [] (wipeE ρ1 vs)
/-! ### operations on data -/
def mulOk (i j : Int) : Prop := (-18446744073709551616 < i ∧ i < 18446744073709551616) ∨ (-18446744073709551616 < j ∧ j < 18446744073709551616) ∨ i.natAbs.log2 + j.natAbs.log2 < 1000000
def oAdd : O2 := fun d e Q => match d, e with
  | .int i, .int j => Q (.int (i + j)) false
  | .str x, .str y => x.length + y.length ≤ LIM ∧ Q (.str (x ++ y)) false
  | .list xs, .list ys => xs.length + ys.length ≤ LIM ∧ Q (.list (xs ++ ys)) true
  | .tuple xs, .tuple ys => xs.length + ys.length ≤ LIM ∧ Q (.tuple (xs ++ ys)) false
  | _, _ => False
def oSub : O2 := fun d e Q => match d, e with
  | .int i, .int j => Q (.int (i - j)) false
  | _, _ => False
def oMul : O2 := fun d e Q => match d, e with
  | .int i, .int j => mulOk i j ∧ Q (.int (i * j)) false
  | .list xs, .int k => -9223372036854775808 ≤ k ∧ k < 9223372036854775808 ∧ xs.length * k.toNat ≤ LIM ∧ Q (.list (List.replicate k.toNat xs).flatten) true
  | _, _ => False
def oFdiv : O2 := fun d e Q => match d, e with
  | .int i, .int j => j ≠ 0 ∧ j.natAbs.log2 < 9000 ∧ Q (.int (i.fdiv j)) false
  | _, _ => False
def oMod : O2 := fun d e Q => match d, e with
  | .int i, .int j => j ≠ 0 ∧ Q (.int (i.fmod j)) false
  | _, _ => False
def oPow : O2 := fun d e Q => match d, e with
  | .int i, .int j => (0 ≤ j ∧ j ≤ 1000000 ∧ i.natAbs < 18446744073709551616) ∧ Q (.int (i ^ j.toNat)) false
  | _, _ => False
def oShl : O2 := fun d e Q => match d, e with
  | .int i, .int j => (0 ≤ j ∧ j ≤ 1000000 ∧ i.natAbs < 18446744073709551616) ∧ Q (.int (i * 2 ^ j.toNat)) false
  | _, _ => False
def oShr : O2 := fun d e Q => match d, e with
  | .int i, .int j => 0 ≤ j ∧ Q (.int (i / 2 ^ j.toNat)) false
  | _, _ => False
def oNeg : O1 := fun d Q => match d with
  | .int i => Q (.int (-i)) false
  | _ => False
/-- data that may be compared, shown: no dict within, not too deep -/
def tame (d : D) : Prop := d.plain = true ∧ d.depth ≤ 50
def oEq : O2 := fun d e Q => tame d ∧ tame e ∧ Q (.bool (PyData.eqv d e)) false
def oNe : O2 := fun d e Q => tame d ∧ tame e ∧ Q (.bool (!PyData.eqv d e)) false
def oLt : O2 := fun d e Q => match d, e with
  | .int i, .int j => Q (.bool (decide (i < j))) false
  | _, _ => False
def oLe : O2 := fun d e Q => match d, e with
  | .int i, .int j => Q (.bool (decide (i ≤ j))) false
  | _, _ => False
def oGt : O2 := fun d e Q => match d, e with
  | .int i, .int j => Q (.bool (decide (j < i))) false
  | _, _ => False
def oGe : O2 := fun d e Q => match d, e with
  | .int i, .int j => Q (.bool (decide (j ≤ i))) false
  | _, _ => False
def atD {α : Type} (xs : List α) (i : Int) : Option α := (ixD xs.length i).bind fun j => xs[j]?
def oIx : O2 := fun d e Q => match d, e with
  | .list xs, .int i => ∃ x, atD xs i = some x ∧ Q x false
  | .tuple xs, .int i => ∃ x, atD xs i = some x ∧ Q x false
  | .str z, .int i => z.length ≤ LIM ∧ ∃ c, atD z.cps.toList i = some c ∧ Q (.str ⟨#[c]⟩) false
  | _, _ => False
def oLen : O1 := fun d Q => match d with
  | .list xs => Q (.int xs.length) false
  | .dict [(.none, .list xs)] => Q (.int xs.length) false
  | .tuple xs => Q (.int xs.length) false
  | .str z => z.length ≤ LIM ∧ Q (.int z.length) false
  | _ => False
def oAbs : O1 := fun d Q => match d with
  | .int i => Q (.int (if i < 0 then -i else i)) false
  | _ => False
def oInt : O1 := fun d Q => match d with
  | .int i => Q (.int i) false
  | .bool b => Q (.int (if b then 1 else 0)) false
  | _ => False
def oMax2 : O2 := fun d e Q => match d, e with
  | .int i, .int j => Q (.int (if j > i then j else i)) false
  | _, _ => False
def oMin2 : O2 := fun d e Q => match d, e with
  | .int i, .int j => Q (.int (if j < i then j else i)) false
  | _, _ => False
def txt (i : Int) : Str := Str.ofString (toString i)
def oStr : O1 := fun d Q => match d with
  | .int i => i.natAbs.log2 < 1920 ∧ Q (.str (txt i)) false
  | .str x => Q (.str x) false
  | _ => False
def oRepr : O1 := fun d Q => match d with
  | .list xs => (tame (.list xs) ∧ PyData.showable (.list xs) = true ∧ (PyData.shown (.list xs)).length ≤ LIM) ∧ Q (.str (PyData.shown (.list xs))) false
  | _ => False
/-- a part of an f-string -/
def oFmt : O1 := fun d Q => match d with
  | .int i => i.natAbs.log2 < 1920 ∧ Q (.str (txt i)) false
  | .str x => x.length ≤ LIM ∧ Q (.str x) false
  | _ => False
def fsGo : List WE → Str → Env → (Str → Env → Prop) → Prop
  | [], acc, ρ, Q => Q acc ρ
  | e :: es, acc, ρ, Q => e ρ fun d _ ρ1 => ∃ y : Str, d = .str y ∧ (acc ++ y).length ≤ LIM ∧ fsGo es (acc ++ y) ρ1 Q
def wFs (es : List WE) : WE := fun ρ Q => fsGo es Str.empty ρ fun z ρ1 => Q (.str z) false ρ1
/-! #### parts of a sequence -/
abbrev WP := Env → (Option Int → Env → Prop) → Prop
def pN : WP := fun ρ Q => Q none ρ
def pS (e : WE) : WP := fun ρ Q => e ρ fun d _ ρ1 => ∃ i, d = .int i ∧ Q (some i) ρ1
/-- where a bound of a slice lies in a sequence of n -/
def cutIx (n dflt : Nat) : Option Int → Nat
  | none => dflt
  | some i => if i < 0 then (i + n).toNat else min i.toNat n
def cutD (xs : List D) (lo hi : Option Int) : List D := (xs.drop (cutIx xs.length 0 lo)).take (cutIx xs.length xs.length hi - cutIx xs.length 0 lo)
def oCut (lo hi : Option Int) : O1 := fun d Q => match d with
  | .list xs => Q (.list (cutD xs lo hi)) true
  | .dict [(.none, .list xs)] => Q (.list (cutD xs lo hi)) true
  | .tuple xs => Q (.tuple (cutD xs lo hi)) false
  | _ => False
def wSl (a : WE) (lo hi : WP) : WE := fun ρ Q => a ρ fun d _ ρ1 => lo ρ1 fun l ρ2 => hi ρ2 fun h ρ3 => oCut l h d fun r f => Q r f ρ3
/-! #### two walked together -/
def zipD : List D → List D → List D
  | x :: xs, y :: ys => .tuple [x, y] :: zipD xs ys
  | _, _ => []
def itZ (a b : WE) : WI := fun ρ Q => a ρ fun d _ ρ1 => b ρ1 fun e _ ρ2 => ∃ xs ys, ((d = .list xs ∧ e = .list ys) ∨ (d = .tuple xs ∧ e = .tuple ys)) ∧ Q (zipD xs ys) ρ2
def enumD : Nat → List D → List D
  | _, [] => []
  | k, x :: xs => .tuple [.int (k : Nat), x] :: enumD (k + 1) xs
def itE (a : WE) : WI := fun ρ Q => a ρ fun d _ ρ1 => ∃ xs, d = .list xs ∧ Q (enumD 0 xs) ρ1
/-! ### a def's frame -/
def startE (bs : List Bool) : List D → Nat → Env
  | [], n => List.replicate n none
  | d :: ds, n => some (if bs.headD false then .bo d else .sh d) :: startE bs.tail ds n
def lent (ρ : Env) : List D := ρ.filterMap fun e => match e with
  | some (.bo d) => some d
  | _ => none
/-- the body's reading keeps the promise C: m other names behind the parameters -/
def Keeps (C : Con) (bs : List Bool) (m : Nat) (w : (Exc → Prop) → WS) : Prop := ∀ ds Q E, C ds Q E →
  ds.length = bs.length ∧ w E { nx := fun ρ => Q .none false (lent ρ), rt := fun r f ρ => Q r f (lent ρ) } (startE bs ds m)
/-- the promise of a law: true of every script -/
def lawC (B : List Int → Prop) : Con := fun ds Q _ => ∃ ns : List Int, ds = [scrD (ns.map PyData.int)] ∧ B ns ∧ ∀ f, Q (.bool true) f []
theorem lawC_len {B : List Int → Prop} : ∀ ds Q E, lawC B ds Q E → ds.length = 1 := fun ds Q E h => by
  obtain ⟨ns, rfl, _⟩ := h
  rfl
end Dl
set_option maxRecDepth 100000
set_option maxHeartbeats 1000000
/-! Ds: the language of data is true of the model: each of its words stands for a piece of syntax, over the hand layer's judgements. -/
namespace Dl
open PySem PySem.Spec L2
set_option autoImplicit false

/-! ### data in a heap -/
def keyD : Key → D
  | .inl i => .int i
  | .inr x => .str x
mutual
inductive At (K : PySem.W.Frag) (F : Hp) : V → D → Prop
  | non : At K F .non .none
  | bl (b : Bool) : At K F (.bl b) (.bool b)
  | int (i : Int) : At K F (.int i) (.int i)
  | str (x : Str) : At K F (.str x) (.str x)
  | lst {a : Addr} {xs : List V} {ds : List D} : F a = some (.lst xs) → AtL K F xs ds → ds.length ≤ LIM → At K F (.ref a) (.list ds)
  | scr {a : Addr} {xs : List V} {ds : List D} : SqL K F a xs → AtL K F xs ds → ds.length ≤ LIM → At K F (.ref a) (scrD ds)
  | tup {a : Addr} {xs : List V} {ds : List D} : SqT K F a xs → AtL K F xs ds → ds.length ≤ LIM → At K F (.ref a) (.tuple ds)
  | dK {a : Addr} {kv : List (Key × V)} {ks vs : List D} : F a = some (.dK kv) → ks = kv.map (fun p => keyD p.1) → AtL K F (kv.map (·.2)) vs → At K F (.ref a) (.dict (ks.zip vs))
  | dT {a : Addr} {kv : List (List Key × V)} {ks vs : List D} : F a = some (.dT kv) → ks = kv.map (fun p => .tuple (p.1.map keyD)) → AtL K F (kv.map (·.2)) vs → At K F (.ref a) (.dict (ks.zip vs))
inductive AtL (K : PySem.W.Frag) (F : Hp) : List V → List D → Prop
  | nil : AtL K F [] []
  | cons {v : V} {vs : List V} {d : D} {ds : List D} : At K F v d → AtL K F vs ds → AtL K F (v :: vs) (d :: ds)
end
abbrev Sub (F F' : Hp) : Prop := ∀ a o, F a = some o → F' a = some o
theorem Sub.refl (F : Hp) : Sub F F := fun _ _ h => h
theorem Sub.trans {F F1 F2 : Hp} (x : Sub F F1) (y : Sub F1 F2) : Sub F F2 := fun a o h => y a o (x a o h)
theorem Sub.seqL {K : PySem.W.Frag} {F F' : Hp} {a : Addr} {xs : List V} (e : Sub F F') (h : SqL K F a xs) : SqL K F' a xs := by
  rcases h with (h | ⟨o, h⟩) | h
  · exact .inl (.inl (e _ _ h))
  · exact .inl (.inr ⟨o, e _ _ h⟩)
  · exact .inr h
theorem Sub.seqT {K : PySem.W.Frag} {F F' : Hp} {a : Addr} {xs : List V} (e : Sub F F') (h : SqT K F a xs) : SqT K F' a xs := by
  rcases h with (h | ⟨o, h⟩) | h
  · exact .inl (.inl (e _ _ h))
  · exact .inl (.inr ⟨o, e _ _ h⟩)
  · exact .inr h
section
variable {K : PySem.W.Frag} {F F' H H' : Hp}
mutual
theorem At.mono (e : Sub F F') : ∀ {v : V} {d : D}, At K F v d → At K F' v d
  | _, _, .non => .non
  | _, _, .bl b => .bl b
  | _, _, .int i => .int i
  | _, _, .str x => .str x
  | _, _, .lst s h l => .lst (e _ _ s) (h.mono e) l
  | _, _, .scr s h l => .scr (e.seqL s) (h.mono e) l
  | _, _, .tup s h l => .tup (e.seqT s) (h.mono e) l
  | _, _, .dK s k h => .dK (e _ _ s) k (h.mono e)
  | _, _, .dT s k h => .dT (e _ _ s) k (h.mono e)
theorem AtL.mono (e : Sub F F') : ∀ {vs : List V} {ds : List D}, AtL K F vs ds → AtL K F' vs ds
  | _, _, .nil => .nil
  | _, _, .cons h t => .cons (h.mono e) (t.mono e)
end
theorem AtL.length : ∀ {vs : List V} {ds : List D}, AtL K F vs ds → vs.length = ds.length
  | _, _, .nil => rfl
  | _, _, .cons _ t => congrArg (· + 1) t.length
theorem AtL.get : ∀ {vs : List V} {ds : List D} {i : Nat} {v : V}, AtL K F vs ds → vs[i]? = some v → ∃ d, ds[i]? = some d ∧ At K F v d
  | _, _, _, _, .nil, h => by simp at h
  | _, _, 0, _, .cons h _, e => by simp at e; subst e; exact ⟨_, rfl, h⟩
  | _, _, i + 1, _, .cons _ t, e => by simpa using AtL.get (i := i) t (by simpa using e)
theorem AtL.getD : ∀ {vs : List V} {ds : List D} {i : Nat} {d : D}, AtL K F vs ds → ds[i]? = some d → ∃ v, vs[i]? = some v ∧ At K F v d
  | _, _, _, _, .nil, h => by simp at h
  | _, _, 0, _, .cons h _, e => by simp at e; subst e; exact ⟨_, rfl, h⟩
  | _, _, i + 1, _, .cons _ t, e => by simpa using AtL.getD (i := i) t (by simpa using e)
theorem AtL.append : ∀ {vs us : List V} {ds es : List D}, AtL K F vs ds → AtL K F us es → AtL K F (vs ++ us) (ds ++ es)
  | _, _, _, _, .nil, s => s
  | _, _, _, _, .cons h t, s => .cons h (t.append s)
theorem AtL.take : ∀ {vs : List V} {ds : List D} (n : Nat), AtL K F vs ds → AtL K F (vs.take n) (ds.take n)
  | _, _, 0, _ => .nil
  | _, _, _ + 1, .nil => .nil
  | _, _, n + 1, .cons h t => .cons h (t.take n)
theorem AtL.drop : ∀ {vs : List V} {ds : List D} (n : Nat), AtL K F vs ds → AtL K F (vs.drop n) (ds.drop n)
  | _, _, 0, r => r
  | _, _, _ + 1, .nil => .nil
  | _, _, n + 1, .cons _ t => t.drop n
theorem AtL.set {v : V} {d : D} (r : At K F v d) : ∀ {vs : List V} {ds : List D} (i : Nat), AtL K F vs ds → AtL K F (vs.set i v) (ds.set i d)
  | _, _, _, .nil => .nil
  | _, _, 0, .cons _ t => .cons r t
  | _, _, i + 1, .cons q t => .cons q (t.set r i)
theorem AtL.ints : ∀ {vs : List V} {ns : List Int}, AtL K F vs (ns.map PyData.int) → vs = ns.map V.int
  | _, [], .nil => rfl
  | _, n :: ns, .cons h t => by
    cases h
    exact congrArg _ t.ints
theorem AtL.bools : ∀ {vs : List V} {ns : List Bool}, AtL K F vs (ns.map PyData.bool) → vs = ns.map V.bl
  | _, [], .nil => rfl
  | _, n :: ns, .cons h t => by
    cases h
    exact congrArg _ t.bools
theorem AtL.strs : ∀ {vs : List V} {ns : List Str}, AtL K F vs (ns.map PyData.str) → vs = ns.map V.str
  | _, [], .nil => rfl
  | _, n :: ns, .cons h t => by
    cases h
    exact congrArg _ t.strs
theorem AtL.ofInts : ∀ ns : List Int, AtL K F (ns.map V.int) (ns.map PyData.int)
  | [] => .nil
  | n :: ns => .cons (.int n) (.ofInts ns)
theorem AtL.ofStrs : ∀ ns : List Str, AtL K F (ns.map V.str) (ns.map PyData.str)
  | [] => .nil
  | n :: ns => .cons (.str n) (.ofStrs ns)

/-- a changeable object that is nobody else's -/
def Ow (K : PySem.W.Frag) (F H : Hp) (a : Addr) : D → Prop
  | .list ds => ∃ xs, H a = some (.lst xs) ∧ AtL K F xs ds ∧ ds.length ≤ LIM
  | .dict kvs => (∃ (kv : List (Key × V)) (ks vs : List D), H a = some (.dK kv) ∧ ks = kv.map (fun p => keyD p.1) ∧ AtL K F (kv.map (·.2)) vs ∧ kvs = ks.zip vs) ∨
      ∃ (kv : List (List Key × V)) (ks vs : List D), H a = some (.dT kv) ∧ ks = kv.map (fun p => .tuple (p.1.map keyD)) ∧ AtL K F (kv.map (·.2)) vs ∧ kvs = ks.zip vs
  | _ => False
theorem Ow.ne {a : Addr} {d : D} (h : Ow K F H a d) : H a ≠ none := by
  cases d with
  | list ds => obtain ⟨xs, e, _⟩ := h; rw [e]; exact fun z => nomatch z
  | dict kvs =>
    rcases h with ⟨kv, _, _, e, _⟩ | ⟨kv, _, _, e, _⟩ <;> (rw [e]; exact fun z => nomatch z)
  | none => exact h.elim
  | bool b => exact h.elim
  | int i => exact h.elim
  | str x => exact h.elim
  | tuple xs => exact h.elim
theorem Ow.mono {a : Addr} {d : D} (e : Sub F F') (hh : ∀ o, H a = some o → H' a = some o) (h : Ow K F H a d) : Ow K F' H' a d := by
  cases d with
  | list ds => obtain ⟨xs, q, t, l⟩ := h; exact ⟨xs, hh _ q, t.mono e, l⟩
  | dict kvs =>
    rcases h with ⟨kv, ks, vs, q, k, t, z⟩ | ⟨kv, ks, vs, q, k, t, z⟩
    · exact .inl ⟨kv, ks, vs, hh _ q, k, t.mono e, z⟩
    · exact .inr ⟨kv, ks, vs, hh _ q, k, t.mono e, z⟩
  | none => exact h.elim
  | bool b => exact h.elim
  | int i => exact h.elim
  | str x => exact h.elim
  | tuple xs => exact h.elim
/-- it is handed on: nobody changes it any more -/
theorem Ow.freeze {a : Addr} {d : D} (h : Ow K F H a d) (n : F a = Option.none) : ∃ o, H a = Option.some o ∧ Sub F (upd F a o) ∧ At K (upd F a o) (.ref a) d := by
  have sub : ∀ o, Sub F (upd F a o) := fun o b u e => by rw [upd_ne (ne_of_none e n)]; exact e
  cases d with
  | list ds => obtain ⟨xs, q, t, l⟩ := h; exact ⟨_, q, sub _, .lst upd_same (t.mono (sub _)) l⟩
  | dict kvs =>
    rcases h with ⟨kv, ks, vs, q, k, t, z⟩ | ⟨kv, ks, vs, q, k, t, z⟩
    · subst z; exact ⟨_, q, sub _, .dK upd_same k (t.mono (sub _))⟩
    · subst z; exact ⟨_, q, sub _, .dT upd_same k (t.mono (sub _))⟩
  | none => exact h.elim
  | bool b => exact h.elim
  | int i => exact h.elim
  | str x => exact h.elim
  | tuple xs => exact h.elim
end

/-! ### the ground of a def's run, and the state over it -/
/-- H0, F0: what was tracked, what was fixed, at the entry; b: the lent objects by slot -/
structure Gm where
  H0 : Hp
  F0 : Hp
  b : Nat → Option Addr
def Gm.fr (G : Gm) (H : Hp) : Prop := ∀ a o, G.H0 a = some o → (∀ i, G.b i ≠ some a) → H a = some o
def Sl (K : PySem.W.Frag) (G : Gm) (F H : Hp) (i : Nat) (v : V) : EV → Prop
  | .sh d => At K F v d
  | .ow d => ∃ a, v = .ref a ∧ F a = none ∧ Ow K F H a d ∧ G.H0 a = none
  | .bo d => ∃ a, v = .ref a ∧ F a = none ∧ Ow K F H a d ∧ G.b i = some a
structure Rl (K : PySem.W.Frag) (G : Gm) (ρ : Env) (F : Hp) (σ : L2.St) (H : Hp) : Prop where
  len : σ.length = ρ.length
  sub : Sub F H
  mono : Sub G.F0 F
  fr : G.fr H
  nw : ∀ a o, G.H0 a = some o → G.F0 a = none → F a = none
  bh : ∀ i a, G.b i = some a → H a ≠ none ∧ G.H0 a ≠ none
  bi : ∀ i j a, G.b i = some a → G.b j = some a → i = j
  bs : ∀ (i : Nat) (a : Addr), G.b i = some a → ∃ d, ρ[i]? = some (some (EV.bo d))
  sl : ∀ (i : Nat) (e : EV), ρ[i]? = some (some e) → ∃ v, σ[i]? = some (some v) ∧ Sl K G F H i v e
  inj : ∀ (i j : Nat) (a : Addr) (d e : D), ρ[i]? = some (some (EV.ow d)) → ρ[j]? = some (some (EV.ow e)) → σ[i]? = some (some (V.ref a)) → σ[j]? = some (some (V.ref a)) → i = j
/-- the heap grows -/
structure Gr (F H F' H' : Hp) : Prop where
  hh : Sub H H'
  ff : Sub F F'
  fh : Sub F' H'
  nw : ∀ a, H a ≠ none → F' a = F a
theorem Gr.same {F H : Hp} (s : Sub F H) : Gr F H F H := ⟨Sub.refl _, Sub.refl _, s, fun _ _ => rfl⟩
/-- a new object that is fixed from the start -/
theorem Gr.new {F H : Hp} {p : Addr} {o : HO} (s : Sub F H) (n : H p = none) : Gr F H (upd F p o) (upd H p o) := by
  have fn : F p = none := by
    cases e : F p with
    | none => rfl
    | some u => rw [s p u e] at n; cases n
  refine ⟨fun a u e => by rw [upd_ne (ne_of_none e n)]; exact e, fun a u e => by rw [upd_ne (ne_of_none e fn)]; exact e, fun a u e => ?_, fun a h => ?_⟩
  · by_cases q : a = p
    · subst q; rw [upd_same] at e ⊢; exact e
    · rw [upd_ne q] at e ⊢; exact s a u e
  · rw [upd_ne]; intro q; exact h (q ▸ n)
/-- a new object that may be changed -/
theorem Gr.own {F H : Hp} {p : Addr} {o : HO} (s : Sub F H) (n : H p = none) : Gr F H F (upd H p o) :=
  ⟨fun a u e => by rw [upd_ne (ne_of_none e n)]; exact e, Sub.refl _, fun a u e => by rw [upd_ne (ne_of_none (s a u e) n)]; exact s a u e, fun _ _ => rfl⟩
theorem Gr.trans {F H F1 H1 F2 H2 : Hp} (x : Gr F H F1 H1) (y : Gr F1 H1 F2 H2) : Gr F H F2 H2 :=
  ⟨x.hh.trans y.hh, x.ff.trans y.ff, y.fh, fun a h => by
    have h1 : H1 a ≠ none := by
      cases e : H a with
      | none => exact absurd e h
      | some o => rw [x.hh a o e]; exact fun z => nomatch z
    rw [y.nw a h1, x.nw a h]⟩
section
variable {K : PySem.W.Frag} {G : Gm} {ρ : Env} {F F' H H' : Hp} {σ : L2.St}
theorem sub_none {F H : Hp} (s : Sub F H) {a : Addr} (h : H a = none) : F a = none := by
  cases e : F a with
  | none => rfl
  | some u => rw [s a u e] at h; cases h
theorem Rl.h0 (R : Rl K G ρ F σ H) {a : Addr} (h : H a = none) : G.H0 a = none := by
  cases e : G.H0 a with
  | none => rfl
  | some o =>
    have : ∀ i, G.b i ≠ some a := fun i q => (R.bh i a q).1 h
    rw [R.fr a o e this] at h; cases h
theorem Rl.grow (R : Rl K G ρ F σ H) (g : Gr F H F' H') : Rl K G ρ F' σ H' := by
  have ne : ∀ {a : Addr} {d : D}, Ow K F H a d → H a ≠ none := fun h => h.ne
  refine ⟨R.len, g.fh, R.mono.trans g.ff, fun a o e n => g.hh _ _ (R.fr a o e n), fun a o e n => ?_, fun i a e => ⟨?_, (R.bh i a e).2⟩, R.bi, R.bs, fun i e q => ?_, R.inj⟩
  · have f := R.nw a o e n
    by_cases h : H a = none
    · rw [R.h0 h] at e; cases e
    · rw [g.nw a h]; exact f
  · intro z
    cases q : H a with
    | none => exact (R.bh i a e).1 q
    | some o => rw [g.hh a o q] at z; cases z
  · obtain ⟨v, hv, s⟩ := R.sl i e q
    refine ⟨v, hv, ?_⟩
    cases e with
    | sh d => exact At.mono g.ff s
    | ow d =>
      obtain ⟨a, rfl, f, o, z⟩ := s
      exact ⟨a, rfl, by rw [g.nw a (ne o)]; exact f, o.mono g.ff (fun u e => g.hh _ _ e), z⟩
    | bo d =>
      obtain ⟨a, rfl, f, o, z⟩ := s
      exact ⟨a, rfl, by rw [g.nw a (ne o)]; exact f, o.mono g.ff (fun u e => g.hh _ _ e), z⟩
/-- more is fixed: an object that no slot holds -/
theorem Rl.fix (R : Rl K G ρ F σ H) {p : Addr} {o : HO} (hp : H p = some o) (n0 : G.H0 p = none) (nf : F p = none)
    (no : ∀ (i : Nat) (d : D), ρ[i]? = some (some (EV.ow d)) → σ[i]? ≠ some (some (V.ref p))) : Rl K G ρ (upd F p o) σ H := by
  have sub : Sub F (upd F p o) := fun a u e => by rw [upd_ne (ne_of_none e nf)]; exact e
  refine ⟨R.len, fun a u e => ?_, R.mono.trans sub, R.fr, fun a u e n => ?_, R.bh, R.bi, R.bs, fun i e q => ?_, R.inj⟩
  · by_cases q : a = p
    · subst q; rw [upd_same] at e; rw [hp]; exact e
    · rw [upd_ne q] at e; exact R.sub a u e
  · rw [upd_ne]
    · exact R.nw a u e n
    · rintro rfl; rw [n0] at e; cases e
  · obtain ⟨v, hv, s⟩ := R.sl i e q
    refine ⟨v, hv, ?_⟩
    cases e with
    | sh d => exact At.mono sub s
    | ow d =>
      obtain ⟨a, rfl, f, w, z⟩ := s
      refine ⟨a, rfl, ?_, w.mono sub (fun u e => e), z⟩
      rw [upd_ne]
      · exact f
      · rintro rfl; exact no i d q hv
    | bo d =>
      obtain ⟨a, rfl, f, w, z⟩ := s
      refine ⟨a, rfl, ?_, w.mono sub (fun u e => e), z⟩
      rw [upd_ne]
      · exact f
      · rintro rfl; exact (R.bh i a z).2 n0

/-- what an expression has given: a new object of nobody's (f), or what stays as it is -/
def Res (K : PySem.W.Frag) (G : Gm) (ρ : Env) (F : Hp) (σ : L2.St) (H : Hp) (f : Bool) (d : D) (v : V) : Prop :=
  if f = true then ∃ p, v = .ref p ∧ F p = none ∧ Ow K F H p d ∧ G.H0 p = none ∧ ∀ (i : Nat) (e : D), ρ[i]? = some (some (EV.ow e)) → σ[i]? ≠ some (some (V.ref p)) else At K F v d
theorem Res.at {v : V} {d : D} (h : At K F v d) : Res K G ρ F σ H false d v := by
  unfold Res
  rw [if_neg Bool.false_ne_true]
  exact h
theorem Res.fix {f : Bool} {d : D} {v : V} (R : Rl K G ρ F σ H) (r : Res K G ρ F σ H f d v) : ∃ F', Rl K G ρ F' σ H ∧ Sub F F' ∧ At K F' v d := by
  cases f with
  | false =>
    unfold Res at r
    rw [if_neg Bool.false_ne_true] at r
    exact ⟨F, R, Sub.refl _, r⟩
  | true =>
    unfold Res at r
    rw [if_pos rfl] at r
    obtain ⟨p, rfl, fp, o, n0, no⟩ := r
    obtain ⟨u, hu, s, a⟩ := o.freeze fp
    exact ⟨_, R.fix hu n0 fp no, s, a⟩
/-- a new object -/
theorem Res.new {d : D} {p : Addr} {o : HO} (R : Rl K G ρ F σ H) (n : H p = none) (w : Ow K F (upd H p o) p d) :
    Rl K G ρ F σ (upd H p o) ∧ Res K G ρ F σ (upd H p o) true d (.ref p) := by
  refine ⟨R.grow (Gr.own R.sub n), ?_⟩
  unfold Res
  rw [if_pos rfl]
  refine ⟨p, rfl, sub_none R.sub n, w, R.h0 n, fun i e q z => ?_⟩
  obtain ⟨v, hv, a, rfl, _, w', _⟩ := R.sl i _ q
  rw [hv] at z; cases z
  exact w'.ne n
end

/-! ### judgements -/
/-- how an error lies: its class, its own dict, the heap -/
abbrev EAT := Exc → Value → Option Addr → Hp → Prop
def XA (EA : EAT) (E : Exc → Prop) (EH : XK) (G : Gm) : Prop := ∀ x, E x → ∀ c d H', EA x c d H' → G.fr H' → EH c d H'
def SimE (K : PySem.W.Frag) (EA : EAT) (E : Exc → Prop) (EH : XK) (te : TE) (w : WE) : Prop := ∀ (G : Gm), XA EA E EH G → ∀ (ρ : Env) (F : Hp) (σ : L2.St) (H : Hp), Rl K G ρ F σ H → ∀ (Qd : KE) (Q : VK), w ρ Qd →
  (∀ d f ρ' v F' H', Qd d f ρ' → Rl K G ρ' F' σ H' → Sub F F' → Res K G ρ' F' σ H' f d v → Q v H') → te σ H Q
def SimA (K : PySem.W.Frag) (EA : EAT) (E : Exc → Prop) (EH : XK) (ta : TA) (w : WA) : Prop := ∀ (G : Gm), XA EA E EH G → ∀ (ρ : Env) (F : Hp) (σ : L2.St) (H : Hp), Rl K G ρ F σ H → ∀ (Qd : List D → Env → Prop) (Q : List V → Hp → Prop), w ρ Qd →
  (∀ ds ρ' vs F' H', Qd ds ρ' → Rl K G ρ' F' σ H' → Sub F F' → AtL K F' vs ds → Q vs H') → ta σ H Q
def SimT (K : PySem.W.Frag) (EA : EAT) (E : Exc → Prop) (EH : XK) (tt : TT) (w : WT) : Prop := ∀ (G : Gm), XA EA E EH G → ∀ (ρ : Env) (F : Hp) (σ : L2.St) (H : Hp), Rl K G ρ F σ H → ∀ (Qd : Bool → Env → Prop) (Q : Bool → Hp → Prop), w ρ Qd →
  (∀ b ρ' F' H', Qd b ρ' → Rl K G ρ' F' σ H' → Sub F F' → Q b H') → tt σ H Q
/-- what stands behind a statement -/
structure Lands (K : PySem.W.Frag) (G : Gm) (P : Po) (Dn : Ends) : Prop where
  nx : ∀ ρ F σ H, P.nx ρ → Rl K G ρ F σ H → Dn.nx σ H
  rt : ∀ d f ρ v F σ H, P.rt d f ρ → Rl K G ρ F σ H → Res K G ρ F σ H f d v → Dn.rt v H
  bk : ∀ ρ F σ H, P.bk ρ → Rl K G ρ F σ H → Dn.bk σ H
  ct : ∀ ρ F σ H, P.ct ρ → Rl K G ρ F σ H → Dn.ct σ H
def SimS (K : PySem.W.Frag) (EA : EAT) (E : Exc → Prop) (EH : XK) (ts : TS) (w : WS) : Prop := ∀ (G : Gm), XA EA E EH G → ∀ (ρ : Env) (F : Hp) (σ : L2.St) (H : Hp), Rl K G ρ F σ H → ∀ (P : Po) (Dn : Ends), w P ρ → Lands K G P Dn → ts Dn σ H
def SimG (K : PySem.W.Frag) (EA : EAT) (E : Exc → Prop) (EH : XK) (tg : TG) (w : WG) : Prop := ∀ (G : Gm), XA EA E EH G → ∀ (ρ : Env) (F : Hp) (σ : L2.St) (H : Hp), Rl K G ρ F σ H → ∀ (d : D) (f : Bool) (v : V) (Qd : Env → Prop) (Q : L2.St → Hp → Prop), Res K G ρ F σ H f d v → w d f ρ Qd →
  (∀ ρ' F' σ' H', Qd ρ' → Rl K G ρ' F' σ' H' → Sub F F' → Q σ' H') → tg v σ H Q
def SimGs (K : PySem.W.Frag) (EA : EAT) (E : Exc → Prop) (EH : XK) (tg : TGs) (w : WGs) : Prop := ∀ (G : Gm), XA EA E EH G → ∀ (ρ : Env) (F : Hp) (σ : L2.St) (H : Hp), Rl K G ρ F σ H → ∀ (ds : List D) (vs : List V) (Qd : Env → Prop) (Q : L2.St → Hp → Prop), AtL K F vs ds → w ds ρ Qd →
  (∀ ρ' F' σ' H', Qd ρ' → Rl K G ρ' F' σ' H' → Sub F F' → Q σ' H') → tg vs σ H Q
/-- what a loop walks: the items are fixed -/
def Walks (K : PySem.W.Frag) (F : Hp) (ds : List D) (J : It) : Prop :=
  (∀ i H, Sub F H → i < ds.length → J.go i H) ∧ (∀ i H, Sub F H → ds.length ≤ i → J.stop i H) ∧
  ∀ i H x H', Sub F H → J.yld i H x H' → ∀ d, ds[i]? = some d → ∀ F1, Sub F F1 → Sub F1 H → ∃ F2, Gr F1 H F2 H' ∧ At K F2 x d
def SimI (K : PySem.W.Frag) (EA : EAT) (E : Exc → Prop) (EH : XK) (ti : TI) (w : WI) : Prop := ∀ (G : Gm), XA EA E EH G → ∀ (ρ : Env) (F : Hp) (σ : L2.St) (H : Hp), Rl K G ρ F σ H → ∀ (Qd : List D → Env → Prop) (R : It → Hp → Prop), w ρ Qd →
  (∀ ds ρ' F' H' J, Qd ds ρ' → Rl K G ρ' F' σ H' → Sub F F' → Walks K F' ds J → R J H') → ti σ H R
structure DE (X : Cx) (EA : EAT) (E : Exc → Prop) (EH : XK) (e : Expr) (w : WE) : Prop where
  ex : ∃ te, PE X e te ∧ SimE X.K EA E EH te w
structure DA (X : Cx) (EA : EAT) (E : Exc → Prop) (EH : XK) (es : List Expr) (w : WA) : Prop where
  ex : ∃ ta, PA X es ta ∧ SimA X.K EA E EH ta w
structure DT (X : Cx) (EA : EAT) (E : Exc → Prop) (EH : XK) (e : Expr) (w : WT) : Prop where
  ex : ∃ tt, PT X e tt ∧ SimT X.K EA E EH tt w
structure DW (X : Cx) (EA : EAT) (E : Exc → Prop) (EH : XK) (e : Expr) (w : WT) : Prop where
  ex : ∃ tt, PW X e tt ∧ SimT X.K EA E EH tt w
structure DTs (X : Cx) (EA : EAT) (E : Exc → Prop) (EH : XK) (es : List Expr) (w : WT) : Prop where
  ex : ∃ tt, PTs X es tt ∧ SimT X.K EA E EH tt w
structure DS (X : Cx) (EA : EAT) (E : Exc → Prop) (EH : XK) (st : Stmt) (w : WS) : Prop where
  ex : ∃ ts, PS X st ts ∧ SimS X.K EA E EH ts w
structure DSs (X : Cx) (EA : EAT) (E : Exc → Prop) (EH : XK) (st : List Stmt) (w : WS) : Prop where
  ex : ∃ ts, PSs X st ts ∧ SimS X.K EA E EH ts w
structure DG (X : Cx) (EA : EAT) (E : Exc → Prop) (EH : XK) (e : Expr) (w : WG) : Prop where
  ex : ∃ tg, PG X e tg ∧ SimG X.K EA E EH tg w
structure DGs (X : Cx) (EA : EAT) (E : Exc → Prop) (EH : XK) (es : List Expr) (w : WGs) : Prop where
  ex : ∃ tg, PGs X es tg ∧ SimGs X.K EA E EH tg w
structure DI (X : Cx) (EA : EAT) (E : Exc → Prop) (EH : XK) (tg e : Expr) (w : WI) : Prop where
  ex : ∃ ti, PI X tg e ti ∧ SimI X.K EA E EH ti w

section
variable {K : PySem.W.Frag} {EA : EAT} {E : Exc → Prop} {EH : XK} {G : Gm} {ρ : Env} {F H : Hp} {σ : L2.St} {te ta tb tc : TE} {w wa wb wc : WE} {Q : VK}
/-- used once more: what it has given is fixed -/
theorem SimE.run (s : SimE K EA E EH te w) (xa : XA EA E EH G) (R : Rl K G ρ F σ H) {Qd : D → Env → Prop} (h : w ρ fun d _ ρ1 => Qd d ρ1)
    (k : ∀ d ρ' v F' H', Qd d ρ' → Rl K G ρ' F' σ H' → Sub F F' → At K F' v d → Q v H') : te σ H Q :=
  s G xa ρ F σ H R _ Q h fun d f ρ' v F' H' q R' sf r => by
    obtain ⟨F2, R2, s2, a⟩ := r.fix R'
    exact k d ρ' v F2 H' q R2 (sf.trans s2) a
/-- what a value shows now -/
inductive Pk (K : PySem.W.Frag) (F H : Hp) : V → D → Prop
  | at {v : V} {d : D} : At K F v d → Pk K F H v d
  | ow {a : Addr} {d : D} : Ow K F H a d → F a = none → Pk K F H (.ref a) d
theorem Pk.list {v : V} {ds : List D} (sub : Sub F H) (p : Pk K F H v (.list ds)) : ∃ a xs, v = .ref a ∧ H a = some (.lst xs) ∧ AtL K F xs ds ∧ ds.length ≤ LIM := by
  cases p with
  | «at» h => cases h with | lst s t l => exact ⟨_, _, rfl, sub _ _ s, t, l⟩
  | ow h f => obtain ⟨xs, e, t, l⟩ := h; exact ⟨_, xs, rfl, e, t, l⟩
theorem Pk.tuple {v : V} {ds : List D} (sub : Sub F H) (p : Pk K F H v (.tuple ds)) : At K F v (.tuple ds) ∧ ∃ a xs, v = .ref a ∧ SqT K H a xs ∧ AtL K F xs ds ∧ ds.length ≤ LIM := by
  cases p with
  | «at» h =>
    have h' := h
    cases h with | tup s t l => exact ⟨h', _, _, rfl, sub.seqT s, t, l⟩
  | ow h f => exact h.elim
theorem Pk.int {v : V} {i : Int} (p : Pk K F H v (.int i)) : v = .int i := by
  cases p with
  | «at» h => cases h; rfl
  | ow h f => exact h.elim
theorem Pk.str {v : V} {i : Str} (p : Pk K F H v (.str i)) : v = .str i := by
  cases p with
  | «at» h => cases h; rfl
  | ow h f => exact h.elim
theorem Pk.bool {v : V} {i : Bool} (p : Pk K F H v (.bool i)) : v = .bl i := by
  cases p with
  | «at» h => cases h; rfl
  | ow h f => exact h.elim
theorem Pk.non {v : V} (p : Pk K F H v .none) : v = .non := by
  cases p with
  | «at» h => cases h; rfl
  | ow h f => exact h.elim
theorem Rl.pk {i : Nat} {d : D} (R : Rl K G ρ F σ H) (h : rdE ρ i = some d) : ∃ v, σ[i]? = some (some v) ∧ Pk K F H v d := by
  unfold rdE at h
  split at h
  · rename_i e he
    cases h
    obtain ⟨v, hv, s⟩ := R.sl i e he
    refine ⟨v, hv, ?_⟩
    cases e with
    | sh d => exact .at s
    | ow d => obtain ⟨a, rfl, f, o, _⟩ := s; exact .ow o f
    | bo d => obtain ⟨a, rfl, f, o, _⟩ := s; exact .ow o f
  · cases h
/-- what an operation gives over the heap it leaves -/
def New (K : PySem.W.Frag) (H F' H' : Hp) (f : Bool) (x : D) (z : V) : Prop :=
  (f = false → At K F' z x) ∧ (f = true → ∃ p, z = .ref p ∧ H p = none ∧ F' p = none ∧ Ow K F' H' p x)
theorem New.at {F' H' : Hp} {x : D} {z : V} (h : At K F' z x) : New K H F' H' false x z := ⟨fun _ => h, fun z => nomatch z⟩
theorem New.res {F' H' : Hp} {x : D} {z : V} {f : Bool} (R : Rl K G ρ F σ H) (g : Gr F H F' H') (n : New K H F' H' f x z) : Res K G ρ F' σ H' f x z := by
  unfold Res
  cases f with
  | false => rw [if_neg Bool.false_ne_true]; exact n.1 rfl
  | true =>
    rw [if_pos rfl]
    obtain ⟨p, rfl, hn, fn, o⟩ := n.2 rfl
    refine ⟨p, rfl, fn, o, R.h0 hn, fun i e q z => ?_⟩
    obtain ⟨v, hv, a, rfl, _, w', _⟩ := R.sl i _ q
    rw [hv] at z; cases z
    exact w'.ne hn
def SimV1 (K : PySem.W.Frag) (r : V → Hp → VK → Prop) (o : O1) : Prop := ∀ (F H : Hp) (v : V) (d : D) (Qd : D → Bool → Prop) (Q : VK), Sub F H → Pk K F H v d → o d Qd →
  (∀ x f z F' H', Qd x f → Gr F H F' H' → New K H F' H' f x z → Q z H') → r v H Q
def SimV2 (K : PySem.W.Frag) (r : R2) (o : O2) : Prop := ∀ (F H : Hp) (v u : V) (d e : D) (Qd : D → Bool → Prop) (Q : VK), Sub F H → Pk K F H v d → Pk K F H u e → o d e Qd →
  (∀ x f z F' H', Qd x f → Gr F H F' H' → New K H F' H' f x z → Q z H') → r v u H Q
theorem SimV2.or {r r' : R2} {o : O2} (h : ∀ (F H : Hp) (v u : V) (d e : D) (Qd : D → Bool → Prop) (Q : VK), Sub F H → Pk K F H v d → Pk K F H u e → o d e Qd →
  (∀ x f z F' H', Qd x f → Gr F H F' H' → New K H F' H' f x z → Q z H') → r v u H Q ∨ r' v u H Q) : SimV2 K (fun x y H Q => r x y H Q ∨ r' x y H Q) o := h

/-! #### names, constants -/
theorem sim_v {i : Nat} : SimE K EA E EH (tVar i) (wV i) := fun G xa ρ F σ H R Qd Q h k => by
  unfold wV at h
  split at h
  · rename_i d he
    obtain ⟨v, hv, s⟩ := R.sl i _ he
    exact ⟨v, hv, k d false ρ v F H h R (Sub.refl _) (Res.at s)⟩
  · rename_i d he
    obtain ⟨v, hv, s⟩ := R.sl i _ he
    obtain ⟨a, rfl, f, o, z⟩ := s
    obtain ⟨u, hu, sb, at_⟩ := o.freeze f
    have hi : i < ρ.length := (List.getElem?_eq_some_iff.mp he).1
    refine ⟨.ref a, hv, k d false _ _ (upd F a u) H h ?_ sb (Res.at at_)⟩
    have ne : ∀ {j : Nat}, j ≠ i → (ρ.set i (some (EV.sh d)))[j]? = ρ[j]? := fun {j} n => List.getElem?_set_ne (Ne.symm n)
    have eq : (ρ.set i (some (EV.sh d)))[i]? = some (some (EV.sh d)) := List.getElem?_set_self hi
    refine ⟨by rw [List.length_set]; exact R.len, fun b o e => ?_, R.mono.trans sb, R.fr, fun b o e n => ?_, R.bh, R.bi, fun j b e => ?_, fun j e q => ?_, fun j l b d1 d2 q1 q2 s1 s2 => ?_⟩
    · by_cases q : b = a
      · subst q; rw [upd_same] at e; rw [hu]; exact e
      · rw [upd_ne q] at e; exact R.sub b o e
    · rw [upd_ne]
      · exact R.nw b o e n
      · rintro rfl; rw [z] at e; cases e
    · obtain ⟨d', q⟩ := R.bs j b e
      have n : j ≠ i := by rintro rfl; rw [he] at q; cases q
      exact ⟨d', by rw [ne n]; exact q⟩
    · by_cases n : j = i
      · subst n
        rw [eq] at q; cases q
        exact ⟨_, hv, at_⟩
      · rw [ne n] at q
        obtain ⟨v', hv', s'⟩ := R.sl j e q
        refine ⟨v', hv', ?_⟩
        cases e with
        | sh d' => exact At.mono sb s'
        | ow d' =>
          obtain ⟨a', rfl, f', o', z'⟩ := s'
          refine ⟨a', rfl, ?_, o'.mono sb (fun _ e => e), z'⟩
          rw [upd_ne]
          · exact f'
          · rintro rfl; exact n (R.inj j i _ d' d q he hv' hv)
        | bo d' =>
          obtain ⟨a', rfl, f', o', z'⟩ := s'
          refine ⟨a', rfl, ?_, o'.mono sb (fun _ e => e), z'⟩
          rw [upd_ne]
          · exact f'
          · rintro rfl; exact (R.bh j a' z').2 z
    · have n1 : j ≠ i := by rintro rfl; rw [eq] at q1; cases q1
      have n2 : l ≠ i := by rintro rfl; rw [eq] at q2; cases q2
      rw [ne n1] at q1
      rw [ne n2] at q2
      exact R.inj j l b d1 d2 q1 q2 s1 s2
  · exact h.elim
theorem sim_c {v : V} {d : D} (h : ∀ K F, At K F v d) : SimE K EA E EH (tC v) (wC d) := fun G xa ρ F σ H R Qd Q q k => k d false ρ v F H q R (Sub.refl _) (Res.at (h _ _))
/-! #### operations -/
theorem sim_o {r : V → Hp → VK → Prop} {o : O1} (sa : SimE K EA E EH ta wa) (so : SimV1 K r o) : SimE K EA E EH (fun σ H Q => ta σ H fun x H1 => r x H1 Q) (wO o wa) := fun G xa ρ F σ H R Qd Q h k =>
  sa.run xa R (Qd := fun d ρ1 => o d fun r f => Qd r f ρ1) h fun d ρ1 v F1 H1 h1 R1 s1 a1 =>
    so F1 H1 v d _ Q R1.sub (.at a1) h1 fun x f z F2 H2 q g n => k x f ρ1 z F2 H2 q (R1.grow g) (s1.trans g.ff) (n.res R1 g)
theorem sim_oP {r : V → Hp → VK → Prop} {o : O1} {i : Nat} (so : SimV1 K r o) : SimE K EA E EH (fun σ H Q => tVar i σ H fun x H1 => r x H1 Q) (wOP o i) := fun G xa ρ F σ H R Qd Q h k => by
  unfold wOP at h
  split at h
  · rename_i d hd
    obtain ⟨v, hv, p⟩ := R.pk hd
    exact ⟨v, hv, so F H v d _ Q R.sub p h fun x f z F2 H2 q g n => k x f ρ z F2 H2 q (R.grow g) g.ff (n.res R g)⟩
  · exact h.elim
theorem sim_b {r : R2} {o : O2} (sa : SimE K EA E EH ta wa) (sb : SimE K EA E EH tb wb) (so : SimV2 K r o) : SimE K EA E EH (fun σ H Q => ta σ H fun x H1 => tb σ H1 fun y H2 => r x y H2 Q) (wB o wa wb) := fun G xa ρ F σ H R Qd Q h k =>
  sa.run xa R (Qd := fun d ρ1 => wb ρ1 fun e _ ρ2 => o d e fun r f => Qd r f ρ2) h fun d ρ1 v F1 H1 h1 R1 s1 a1 =>
    sb.run xa R1 (Qd := fun e ρ2 => o d e fun r f => Qd r f ρ2) h1 fun e ρ2 u F2 H2 h2 R2 s2 a2 =>
      so F2 H2 v u d e _ Q R2.sub (.at (a1.mono s2)) (.at a2) h2 fun x f z F3 H3 q g n => k x f ρ2 z F3 H3 q (R2.grow g) ((s1.trans s2).trans g.ff) (n.res R2 g)
theorem sim_bL {r : R2} {o : O2} {i : Nat} (sb : SimE K EA E EH tb wb) (so : SimV2 K r o) : SimE K EA E EH (fun σ H Q => tVar i σ H fun x H1 => tb σ H1 fun y H2 => r x y H2 Q) (wBL o i wb) := fun G xa ρ F σ H R Qd Q h k => by
  obtain ⟨hi, h⟩ := h
  obtain ⟨d0, hd0⟩ := Option.isSome_iff_exists.mp hi
  obtain ⟨v, hv, _⟩ := R.pk hd0
  refine ⟨v, hv, sb.run xa R (Qd := fun e ρ1 => match rdE ρ1 i with
    | some d => o d e fun r f => Qd r f ρ1
    | none => False) h fun e ρ1 u F1 H1 h1 R1 s1 a1 => ?_⟩
  split at h1
  · rename_i d hd
    obtain ⟨v', hv', p⟩ := R1.pk hd
    rw [hv] at hv'; cases hv'
    exact so F1 H1 v u d e _ Q R1.sub p (.at a1) h1 fun x f z F3 H3 q g n => k x f ρ1 z F3 H3 q (R1.grow g) (s1.trans g.ff) (n.res R1 g)
  · exact h1.elim
theorem sim_bR {r : R2} {o : O2} {i : Nat} (sa : SimE K EA E EH ta wa) (so : SimV2 K r o) : SimE K EA E EH (fun σ H Q => ta σ H fun x H1 => tVar i σ H1 fun y H2 => r x y H2 Q) (wBR o wa i) := fun G xa ρ F σ H R Qd Q h k => by
  refine sa.run xa R (Qd := fun d ρ1 => match rdE ρ1 i with
    | some e => o d e fun r f => Qd r f ρ1
    | none => False) h fun d ρ1 v F1 H1 h1 R1 s1 a1 => ?_
  split at h1
  · rename_i e he
    obtain ⟨u, hu, p⟩ := R1.pk he
    exact ⟨u, hu, so F1 H1 v u d e _ Q R1.sub (.at a1) p h1 fun x f z F3 H3 q g n => k x f ρ1 z F3 H3 q (R1.grow g) (s1.trans g.ff) (n.res R1 g)⟩
  · exact h1.elim
theorem sim_bB {r : R2} {o : O2} {i j : Nat} (so : SimV2 K r o) : SimE K EA E EH (fun σ H Q => tVar i σ H fun x H1 => tVar j σ H1 fun y H2 => r x y H2 Q) (wBB o i j) := fun G xa ρ F σ H R Qd Q h k => by
  unfold wBB at h
  split at h
  · rename_i d e hd he
    obtain ⟨v, hv, p⟩ := R.pk hd
    obtain ⟨u, hu, q⟩ := R.pk he
    exact ⟨v, hv, u, hu, so F H v u d e _ Q R.sub p q h fun x f z F3 H3 q g n => k x f ρ z F3 H3 q (R.grow g) g.ff (n.res R g)⟩
  · exact h.elim
/-! #### argument lists, displays -/
theorem sim_nil : SimA K EA E EH tNil wNil := fun G xa ρ F σ H R Qd Q h k => k [] ρ [] F H h R (Sub.refl _) .nil
theorem sim_cons {tr : TA} {wr : WA} (sa : SimE K EA E EH ta wa) (sr : SimA K EA E EH tr wr) : SimA K EA E EH (tCons ta tr) (wCons wa wr) := fun G xa ρ F σ H R Qd Q h k =>
  sa.run xa R (Qd := fun d ρ1 => wr ρ1 fun ds ρ2 => Qd (d :: ds) ρ2) h fun d ρ1 v F1 H1 h1 R1 s1 a1 =>
    sr G xa ρ1 F1 σ H1 R1 _ _ h1 fun ds ρ2 vs F2 H2 q R2 s2 a2 => k (d :: ds) ρ2 (v :: vs) F2 H2 q R2 (s1.trans s2) (.cons (a1.mono s2) a2)
theorem sim_tup {tr : TA} {wr : WA} (sr : SimA K EA E EH tr wr) : SimE K EA E EH (tTup tr) (wTup wr) := fun G xa ρ F σ H R Qd Q h k =>
  sr G xa ρ F σ H R _ _ h fun ds ρ1 vs F1 H1 h1 R1 s1 a1 => by
    have hl : vs.length ≤ sizeLine := by rw [a1.length]; exact h1.1
    refine ⟨hl, fun p hp => ?_⟩
    have g := Gr.new (o := .tup vs) R1.sub hp
    exact k _ false ρ1 (.ref p) _ _ h1.2 (R1.grow g) (s1.trans g.ff) (Res.at (.tup (.inl (.inl upd_same)) (a1.mono g.ff) h1.1))
theorem sim_lst {tr : TA} {wr : WA} (sr : SimA K EA E EH tr wr) : SimE K EA E EH (tLst tr) (wLst wr) := fun G xa ρ F σ H R Qd Q h k =>
  sr G xa ρ F σ H R _ _ h fun ds ρ1 vs F1 H1 h1 R1 s1 a1 => by
    have hl : vs.length ≤ sizeLine := by rw [a1.length]; exact h1.1
    refine ⟨hl, fun p hp => ?_⟩
    obtain ⟨R2, r2⟩ := Res.new (d := .list ds) (o := .lst vs) R1 hp ⟨vs, upd_same, a1, h1.1⟩
    exact k _ true ρ1 (.ref p) F1 _ h1.2 R2 s1 r2
/-- a built-in over its arguments -/
def SimF (K : PySem.W.Frag) (r : List V → Hp → VK → Prop) (o : OA) : Prop := ∀ (F H : Hp) (vs : List V) (ds : List D) (Qd : D → Bool → Prop) (Q : VK), Sub F H → AtL K F vs ds → o ds Qd →
  (∀ x f z F' H', Qd x f → Gr F H F' H' → New K H F' H' f x z → Q z H') → r vs H Q
theorem sim_f {r : List V → Hp → VK → Prop} {o : OA} {tr : TA} {wr : WA} (sr : SimA K EA E EH tr wr) (so : SimF K r o) : SimE K EA E EH (tCB r tr) (wF o wr) := fun G xa ρ F σ H R Qd Q h k =>
  sr G xa ρ F σ H R _ _ h fun ds ρ1 vs F1 H1 h1 R1 s1 a1 => so F1 H1 vs ds _ Q R1.sub a1 h1 fun x f z F2 H2 q g n => k x f ρ1 z F2 H2 q (R1.grow g) (s1.trans g.ff) (n.res R1 g)
/-! #### tests -/
theorem sim_tv (sa : SimE K EA E EH ta wa) : SimT K EA E EH (tB ta) (wTv wa) := fun G xa ρ F σ H R Qd Q h k =>
  sa G xa ρ F σ H R _ _ h fun d f ρ1 v F1 H1 h1 R1 s1 r1 => by
    obtain ⟨b, rfl, q⟩ := h1
    refine ⟨b, ?_, k b ρ1 F1 H1 q R1 s1⟩
    cases f with
    | false =>
      unfold Res at r1
      rw [if_neg Bool.false_ne_true] at r1
      cases r1; rfl
    | true =>
      unfold Res at r1
      rw [if_pos rfl] at r1
      obtain ⟨p, _, _, o, _⟩ := r1
      exact o.elim
variable {tt tu : TT} {wt wu : WT}
theorem sim_and (st : SimT K EA E EH tt wt) (su : SimT K EA E EH tu wu) : SimT K EA E EH (tAnd tt tu) (wAnd wt wu) := fun G xa ρ F σ H R Qd Q h k =>
  st G xa ρ F σ H R _ _ h fun c ρ1 F1 H1 h1 R1 s1 => by
    cases c with
    | true =>
      rw [if_pos rfl]
      exact su G xa ρ1 F1 σ H1 R1 _ _ (h1.1 rfl) fun b ρ2 F2 H2 q R2 s2 => k b ρ2 F2 H2 q R2 (s1.trans s2)
    | false =>
      rw [if_neg Bool.false_ne_true]
      exact k false ρ1 F1 H1 (h1.2 rfl) R1 s1
theorem sim_or (st : SimT K EA E EH tt wt) (su : SimT K EA E EH tu wu) : SimT K EA E EH (tOr tt tu) (wOr wt wu) := fun G xa ρ F σ H R Qd Q h k =>
  st G xa ρ F σ H R _ _ h fun c ρ1 F1 H1 h1 R1 s1 => by
    cases c with
    | true =>
      rw [if_pos rfl]
      exact k true ρ1 F1 H1 (h1.1 rfl) R1 s1
    | false =>
      rw [if_neg Bool.false_ne_true]
      exact su G xa ρ1 F1 σ H1 R1 _ _ (h1.2 rfl) fun b ρ2 F2 H2 q R2 s2 => k b ρ2 F2 H2 q R2 (s1.trans s2)
theorem sim_not (st : SimT K EA E EH tt wt) : SimT K EA E EH (tNot tt) (wNot wt) := fun G xa ρ F σ H R Qd Q h k =>
  st G xa ρ F σ H R _ _ h fun c ρ1 F1 H1 h1 R1 s1 => k (!c) ρ1 F1 H1 h1 R1 s1
theorem sim_if (st : SimT K EA E EH tt wt) (sa : SimE K EA E EH ta wa) (sb : SimE K EA E EH tb wb) : SimE K EA E EH (tIf tt ta tb) (wIf wt wa wb) := fun G xa ρ F σ H R Qd Q h k =>
  st G xa ρ F σ H R _ _ h fun c ρ1 F1 H1 h1 R1 s1 => by
    cases c with
    | true =>
      rw [if_pos rfl]
      exact sa G xa ρ1 F1 σ H1 R1 _ _ (h1.1 rfl) fun d f ρ2 v F2 H2 q R2 s2 r2 => k d f ρ2 v F2 H2 q R2 (s1.trans s2) r2
    | false =>
      rw [if_neg Bool.false_ne_true]
      exact sb G xa ρ1 F1 σ H1 R1 _ _ (h1.2 rfl) fun d f ρ2 v F2 H2 q R2 s2 r2 => k d f ρ2 v F2 H2 q R2 (s1.trans s2) r2
theorem Res.bool {v : V} {b f : Bool} (r : Res K G ρ F σ H f (.bool b) v) : v = .bl b := by
  cases f with
  | false =>
    unfold Res at r
    rw [if_neg Bool.false_ne_true] at r
    cases r; rfl
  | true =>
    unfold Res at r
    rw [if_pos rfl] at r
    obtain ⟨p, _, _, o, _⟩ := r
    exact o.elim
theorem sim_andV (sa : SimE K EA E EH ta wa) (sb : SimE K EA E EH tb wb) : SimE K EA E EH (tAndV ta tb) (wAndV wa wb) := fun G xa ρ F σ H R Qd Q h k =>
  sa G xa ρ F σ H R _ _ h fun d f ρ1 v F1 H1 h1 R1 s1 r1 => by
    obtain ⟨c, rfl, p, q⟩ := h1
    refine ⟨c, r1.bool, ?_⟩
    cases c with
    | true =>
      rw [if_pos rfl]
      exact sb G xa ρ1 F1 σ H1 R1 _ _ (p rfl) fun d f ρ2 v F2 H2 q R2 s2 r2 => k d f ρ2 v F2 H2 q R2 (s1.trans s2) r2
    | false =>
      rw [if_neg Bool.false_ne_true]
      exact k _ false ρ1 _ F1 H1 (q rfl) R1 s1 (Res.at (.bl false))
theorem sim_orV (sa : SimE K EA E EH ta wa) (sb : SimE K EA E EH tb wb) : SimE K EA E EH (tOrV ta tb) (wOrV wa wb) := fun G xa ρ F σ H R Qd Q h k =>
  sa G xa ρ F σ H R _ _ h fun d f ρ1 v F1 H1 h1 R1 s1 r1 => by
    obtain ⟨c, rfl, p, q⟩ := h1
    refine ⟨c, r1.bool, ?_⟩
    cases c with
    | true =>
      rw [if_pos rfl]
      exact k _ false ρ1 _ F1 H1 (p rfl) R1 s1 (Res.at (.bl true))
    | false =>
      rw [if_neg Bool.false_ne_true]
      exact sb G xa ρ1 F1 σ H1 R1 _ _ (q rfl) fun d f ρ2 v F2 H2 q R2 s2 r2 => k d f ρ2 v F2 H2 q R2 (s1.trans s2) r2
theorem sim_notV (sa : SimE K EA E EH ta wa) : SimE K EA E EH (tNotV ta) (wNotV wa) := fun G xa ρ F σ H R Qd Q h k =>
  sa G xa ρ F σ H R _ _ h fun d f ρ1 v F1 H1 h1 R1 s1 r1 => by
    obtain ⟨c, rfl, q⟩ := h1
    exact ⟨c, r1.bool, k _ false ρ1 _ F1 H1 q R1 s1 (Res.at (.bl _))⟩
theorem sim_chain {r r' : R2} {o o' : O2} (sa : SimE K EA E EH ta wa) (sb : SimE K EA E EH tb wb) (sc : SimE K EA E EH tc wc) (so : SimV2 K r o) (so' : SimV2 K r' o') : SimE K EA E EH (tChain r r' ta tb tc) (wChain o o' wa wb wc) := fun G xa ρ F σ H R Qd Q h k =>
  sa.run xa R (Qd := fun d ρ1 => wb ρ1 fun e _ ρ2 => o d e fun r _ => ∃ k, r = .bool k ∧ (k = true → wc ρ2 fun g _ ρ3 => o' e g fun r' f' => Qd r' f' ρ3) ∧ (k = false → Qd (.bool false) false ρ2)) h fun d ρ1 v F1 H1 h1 R1 s1 a1 =>
    sb.run xa R1 (Qd := fun e ρ2 => o d e fun r _ => ∃ k, r = .bool k ∧ (k = true → wc ρ2 fun g _ ρ3 => o' e g fun r' f' => Qd r' f' ρ3) ∧ (k = false → Qd (.bool false) false ρ2)) h1 fun e ρ2 u F2 H2 h2 R2 s2 a2 =>
      so F2 H2 v u d e _ _ R2.sub (.at (a1.mono s2)) (.at a2) h2 fun x f z F3 H3 q g n => by
        obtain ⟨c, rfl, p1, p2⟩ := q
        have R3 := R2.grow g
        refine ⟨c, (n.res R2 g).bool, ?_⟩
        cases c with
        | true =>
          rw [if_pos rfl]
          exact sc.run xa R3 (Qd := fun g ρ3 => o' e g fun r' f' => Qd r' f' ρ3) (p1 rfl) fun e4 ρ4 u4 F4 H4 h4 R4 s4 a4 =>
            so' F4 H4 u u4 e e4 _ Q R4.sub (.at ((a2.mono g.ff).mono s4)) (.at a4) h4 fun x f z F5 H5 q g5 n => k x f ρ4 z F5 H5 q (R4.grow g5) ((((s1.trans s2).trans g.ff).trans s4).trans g5.ff) (n.res R4 g5)
        | false =>
          rw [if_neg Bool.false_ne_true]
          exact k _ false ρ2 _ F3 H3 (p2 rfl) R3 ((s1.trans s2).trans g.ff) (Res.at (.bl false))
end

section
variable {K : PySem.W.Frag} {EA : EAT} {E : Exc → Prop} {EH : XK} {G : Gm} {ρ : Env} {F H : Hp} {σ : L2.St} {te ta tb tc : TE} {w wa wb wc : WE} {ts tu : TS} {ws wu : WS} {tt : TT} {wt : WT}
/-! #### statements -/
theorem sim_next : SimS K EA E EH tNext wNext := fun G xa ρ F σ H R P Dn h L => L.nx ρ F σ H h R
theorem sim_seq (s : SimS K EA E EH ts ws) (u : SimS K EA E EH tu wu) : SimS K EA E EH (tSeq ts tu) (wSeq ws wu) := fun G xa ρ F σ H R P Dn h L =>
  s G xa ρ F σ H R { P with nx := wu P } { Dn with nx := tu Dn } h ⟨fun ρ F σ H q R => u G xa ρ F σ H R P Dn q L, L.rt, L.bk, L.ct⟩
theorem sim_break : SimS K EA E EH tBreak wBreak := fun G xa ρ F σ H R P Dn h L => L.bk ρ F σ H h R
theorem sim_cont : SimS K EA E EH tCont wCont := fun G xa ρ F σ H R P Dn h L => L.ct ρ F σ H h R
theorem sim_drop (s : SimE K EA E EH te w) : SimS K EA E EH (tDrop te) (wDrop w) := fun G xa ρ F σ H R P Dn h L =>
  s G xa ρ F σ H R _ _ h fun d f ρ1 v F1 H1 q R1 _ _ => L.nx ρ1 F1 σ H1 q R1
theorem sim_ret (s : SimE K EA E EH te w) : SimS K EA E EH (tRet te) (wRet w) := fun G xa ρ F σ H R P Dn h L =>
  s G xa ρ F σ H R _ _ h fun d f ρ1 v F1 H1 q R1 _ r => L.rt d f ρ1 v F1 σ H1 q R1 r
theorem sim_retN : SimS K EA E EH tRetN wRetN := fun G xa ρ F σ H R P Dn h L => L.rt _ _ ρ _ F σ H h R (Res.at .non)
theorem sim_ifS (s : SimT K EA E EH tt wt) (a : SimS K EA E EH ts ws) (b : SimS K EA E EH tu wu) : SimS K EA E EH (tIfS tt ts tu) (wIfS wt ws wu) := fun G xa ρ F σ H R P Dn h L =>
  s G xa ρ F σ H R _ _ h fun c ρ1 F1 H1 q R1 _ => by
    cases c with
    | true => rw [if_pos rfl]; exact a G xa ρ1 F1 σ H1 R1 P Dn (q.1 rfl) L
    | false => rw [if_neg Bool.false_ne_true]; exact b G xa ρ1 F1 σ H1 R1 P Dn (q.2 rfl) L
theorem sim_never : SimS K EA E EH tNever wNever := fun G xa ρ F σ H R P Dn h L => h.elim
theorem sim_raise {x : Exc} {c : Value} (hx : ∀ H, EA x c none H) : SimS K EA E EH (fun _ _ H => EH c none H) (wRaise E x) := fun G xa ρ F σ H R P Dn h L => xa x h c none H (hx H) R.fr
/-! #### slots -/
theorem free_lt {i : Nat} (h : free ρ i) : i < ρ.length ∧ ∀ d, ρ[i]? ≠ some (some (EV.bo d)) := by
  unfold free at h
  split at h
  · exact h.elim
  · rename_i o n he
    exact ⟨(List.getElem?_eq_some_iff.mp he).1, fun d z => by rw [he] at z; cases z; exact n d rfl⟩
  · exact h.elim
theorem Rl.put {i : Nat} {d : D} {f : Bool} {v : V} (R : Rl K G ρ F σ H) (h : free ρ i) (r : Res K G ρ F σ H f d v) : Rl K G (setE ρ i d f) F (σ.set i (some v)) H := by
  obtain ⟨hi, hb⟩ := free_lt h
  have hi' : i < σ.length := by rw [R.len]; exact hi
  unfold setE
  generalize he : (if f = true then EV.ow d else EV.sh d) = e
  have eq : (ρ.set i (some e))[i]? = some (some e) := List.getElem?_set_self hi
  have eq' : (σ.set i (some v))[i]? = some (some v) := List.getElem?_set_self hi'
  have ne : ∀ {j : Nat}, j ≠ i → (ρ.set i (some e))[j]? = ρ[j]? := fun {j} n => List.getElem?_set_ne (Ne.symm n)
  have ne' : ∀ {j : Nat}, j ≠ i → (σ.set i (some v))[j]? = σ[j]? := fun {j} n => List.getElem?_set_ne (Ne.symm n)
  have own : ∀ {d' : D}, e = EV.ow d' → ∃ p, v = .ref p ∧ F p = none ∧ Ow K F H p d' ∧ G.H0 p = none ∧ ∀ (j : Nat) (e : D), ρ[j]? = some (some (EV.ow e)) → σ[j]? ≠ some (some (V.ref p)) := fun {d'} q => by
    cases f with
    | false => rw [if_neg Bool.false_ne_true] at he; rw [← he] at q; cases q
    | true =>
      rw [if_pos rfl] at he; rw [← he] at q; cases q
      unfold Res at r
      rw [if_pos rfl] at r
      exact r
  refine ⟨by rw [List.length_set, List.length_set]; exact R.len, R.sub, R.mono, R.fr, R.nw, R.bh, R.bi, fun j a q => ?_, fun j e' q => ?_, fun j l a d1 d2 q1 q2 s1 s2 => ?_⟩
  · obtain ⟨d', q'⟩ := R.bs j a q
    have n : j ≠ i := by rintro rfl; exact hb d' q'
    exact ⟨d', by rw [ne n]; exact q'⟩
  · by_cases n : j = i
    · subst n
      rw [eq] at q; cases q
      refine ⟨v, eq', ?_⟩
      cases f with
      | false =>
        rw [if_neg Bool.false_ne_true] at he; subst he
        unfold Res at r
        rw [if_neg Bool.false_ne_true] at r
        exact r
      | true =>
        obtain ⟨p, e1, e2, e3, e4, _⟩ := own (d' := d) (by rw [← he, if_pos rfl])
        rw [if_pos rfl] at he; subst he
        exact ⟨p, e1, e2, e3, e4⟩
    · rw [ne n] at q
      rw [ne' n]
      exact R.sl j e' q
  · by_cases n1 : j = i
    · by_cases n2 : l = i
      · rw [n1, n2]
      · subst n1
        rw [eq] at q1; cases q1
        rw [eq'] at s1; cases s1
        rw [ne n2] at q2
        rw [ne' n2] at s2
        obtain ⟨p, e1, _, _, _, no⟩ := own rfl
        cases e1
        exact absurd s2 (no l d2 q2)
    · rw [ne n1] at q1
      rw [ne' n1] at s1
      by_cases n2 : l = i
      · subst n2
        rw [eq] at q2; cases q2
        rw [eq'] at s2; cases s2
        obtain ⟨p, e1, _, _, _, no⟩ := own rfl
        cases e1
        exact absurd s1 (no j d1 q1)
      · rw [ne n2] at q2
        rw [ne' n2] at s2
        exact R.inj j l a d1 d2 q1 q2 s1 s2
/-- a slot's own object is changed -/
theorem Rl.turn {i : Nat} {e e' : EV} {a : Addr} {o : HO} (R : Rl K G ρ F σ H) (he : ρ[i]? = some (some e)) (hs : σ[i]? = some (some (V.ref a))) (hk : (∃ d d', e = .ow d ∧ e' = .ow d') ∨ ∃ d d', e = .bo d ∧ e' = .bo d')
    (hw : Ow K F (upd H a o) a e'.dat) : Rl K G (ρ.set i (some e')) F σ (upd H a o) := by
  have hi : i < ρ.length := (List.getElem?_eq_some_iff.mp he).1
  obtain ⟨v, hv, s⟩ := R.sl i e he
  rw [hs] at hv; cases hv
  have fa : F a = none := by
    rcases hk with ⟨d, d', rfl, rfl⟩ | ⟨d, d', rfl, rfl⟩
    · obtain ⟨a', q, f, _⟩ := s; cases q; exact f
    · obtain ⟨a', q, f, _⟩ := s; cases q; exact f
  have eq : (ρ.set i (some e'))[i]? = some (some e') := List.getElem?_set_self hi
  have ne : ∀ {j : Nat}, j ≠ i → (ρ.set i (some e'))[j]? = ρ[j]? := fun {j} n => List.getElem?_set_ne (Ne.symm n)
  refine ⟨by rw [List.length_set]; exact R.len, fun b u q => by rw [upd_ne (ne_of_none q fa)]; exact R.sub b u q, R.mono, fun b u q n => ?_, R.nw, fun j b q => ⟨?_, (R.bh j b q).2⟩, R.bi, fun j b q => ?_, fun j e2 q => ?_, fun j l b d1 d2 q1 q2 s1 s2 => ?_⟩
  · rw [upd_ne]
    · exact R.fr b u q n
    · rintro rfl
      rcases hk with ⟨d, d', rfl, rfl⟩ | ⟨d, d', rfl, rfl⟩
      · obtain ⟨a', z, _, _, h0⟩ := s; cases z; rw [h0] at q; cases q
      · obtain ⟨a', z, _, _, h0⟩ := s; cases z; exact n i h0
  · by_cases z : b = a
    · subst z; rw [upd_same]; exact fun z => nomatch z
    · rw [upd_ne z]; exact (R.bh j b q).1
  · obtain ⟨d0, q0⟩ := R.bs j b q
    by_cases n : j = i
    · subst n
      rcases hk with ⟨d, d', rfl, rfl⟩ | ⟨d, d', rfl, rfl⟩
      · rw [he] at q0; cases q0
      · exact ⟨d', eq⟩
    · exact ⟨d0, by rw [ne n]; exact q0⟩
  · by_cases n : j = i
    · subst n
      rw [eq] at q; cases q
      refine ⟨.ref a, hs, ?_⟩
      rcases hk with ⟨d, d', rfl, rfl⟩ | ⟨d, d', rfl, rfl⟩
      · obtain ⟨a', z, f, _, h0⟩ := s; cases z; exact ⟨a, rfl, f, hw, h0⟩
      · obtain ⟨a', z, f, _, h0⟩ := s; cases z; exact ⟨a, rfl, f, hw, h0⟩
    · rw [ne n] at q
      obtain ⟨v', hv', s'⟩ := R.sl j e2 q
      refine ⟨v', hv', ?_⟩
      have other : ∀ {a' : Addr}, a' ≠ a → ∀ u, H a' = some u → upd H a o a' = some u := fun {a'} n u q => by rw [upd_ne n]; exact q
      cases e2 with
      | sh d2 => exact s'
      | ow d2 =>
        obtain ⟨a', rfl, f', o', h0'⟩ := s'
        have na : a' ≠ a := by
          rintro rfl
          rcases hk with ⟨d, d', rfl, rfl⟩ | ⟨d, d', rfl, rfl⟩
          · exact n (R.inj j i _ d2 d q he hv' hs)
          · obtain ⟨a'', z, _, _, h0⟩ := s; cases z; exact (R.bh i _ h0).2 h0'
        exact ⟨a', rfl, f', o'.mono (Sub.refl _) (other na), h0'⟩
      | bo d2 =>
        obtain ⟨a', rfl, f', o', h0'⟩ := s'
        have na : a' ≠ a := by
          rintro rfl
          rcases hk with ⟨d, d', rfl, rfl⟩ | ⟨d, d', rfl, rfl⟩
          · obtain ⟨a'', z, _, _, h0⟩ := s; cases z; exact (R.bh j _ h0').2 h0
          · obtain ⟨a'', z, _, _, h0⟩ := s; cases z; exact n (R.bi j i _ h0' h0)
        exact ⟨a', rfl, f', o'.mono (Sub.refl _) (other na), h0'⟩
  · have nb : ∀ {j : Nat} {d1 : D}, (ρ.set i (some e'))[j]? = some (some (EV.ow d1)) → ∃ d0, ρ[j]? = some (some (EV.ow d0)) := fun {j d1} q => by
      by_cases n : j = i
      · subst n
        rw [eq] at q; cases q
        rcases hk with ⟨d, d', rfl, z⟩ | ⟨d, d', rfl, z⟩
        · exact ⟨d, he⟩
        · cases z
      · rw [ne n] at q; exact ⟨d1, q⟩
    obtain ⟨x1, y1⟩ := nb q1
    obtain ⟨x2, y2⟩ := nb q2
    exact R.inj j l b x1 x2 y1 y2 s1 s2
theorem sim_retV {i : Nat} : SimS K EA E EH (tRet (tVar i)) (wRetV i) := fun G xa ρ F σ H R P Dn h L => by
  unfold wRetV at h
  split at h
  · rename_i d he
    obtain ⟨v, hv, s⟩ := R.sl i _ he
    exact ⟨v, hv, L.rt d false ρ v F σ H h R (Res.at s)⟩
  · rename_i d he
    obtain ⟨v, hv, s⟩ := R.sl i _ he
    obtain ⟨a, rfl, f, o, h0⟩ := s
    have hi : i < ρ.length := (List.getElem?_eq_some_iff.mp he).1
    have eq : (ρ.set i none)[i]? = some none := List.getElem?_set_self hi
    have ne : ∀ {j : Nat}, j ≠ i → (ρ.set i none)[j]? = ρ[j]? := fun {j} n => List.getElem?_set_ne (Ne.symm n)
    have sm : ∀ {j : Nat} {e : EV}, (ρ.set i none)[j]? = some (some e) → ρ[j]? = some (some e) ∧ j ≠ i := fun {j e} q => by
      by_cases n : j = i
      · subst n; rw [eq] at q; cases q
      · rw [ne n] at q; exact ⟨q, n⟩
    refine ⟨.ref a, hv, L.rt d true _ _ F σ H h ⟨by rw [List.length_set]; exact R.len, R.sub, R.mono, R.fr, R.nw, R.bh, R.bi, fun j b q => ?_, fun j e q => R.sl j e (sm q).1, fun j l b d1 d2 q1 q2 => R.inj j l b d1 d2 (sm q1).1 (sm q2).1⟩ ?_⟩
    · obtain ⟨d', q'⟩ := R.bs j b q
      have n : j ≠ i := by rintro rfl; rw [he] at q'; cases q'
      exact ⟨d', by rw [ne n]; exact q'⟩
    · unfold Res
      rw [if_pos rfl]
      refine ⟨a, rfl, f, o, h0, fun j e q z => ?_⟩
      obtain ⟨q', n⟩ := sm q
      exact n (R.inj j i a e d q' he z hv)
  · exact h.elim
/-! #### targets -/
theorem sim_gN {i : Nat} : SimG K EA E EH (gName i) (gN i) := fun G xa ρ F σ H R d f v Qd Q r h k => k _ F _ H h.2 (R.put h.1 r) (Sub.refl _)
theorem sim_gNil : SimGs K EA E EH L2.gNil gNil := fun G xa ρ F σ H R ds vs Qd Q a h k => by
  obtain ⟨rfl, q⟩ := h
  cases a
  exact ⟨rfl, k ρ F σ H q R (Sub.refl _)⟩
theorem At.res {v : V} {d : D} (h : At K F v d) : Res K G ρ F σ H false d v := Res.at h
end

/-! ### some objects more are not to be changed for a while -/
open Classical in
noncomputable def Gm.lock (G : Gm) (F H : Hp) (p : Addr → Prop) : Gm := { H0 := fun a => if p a then H a else G.H0 a, F0 := F, b := G.b }
section
variable {K : PySem.W.Frag} {EA : EAT} {E : Exc → Prop} {EH : XK} {G : Gm} {ρ ρ' : Env} {F F' H H' : Hp} {σ σ' : L2.St} {p : Addr → Prop}
theorem lock_in {a : Addr} (h : p a) : (G.lock F H p).H0 a = H a := if_pos h
theorem lock_out {a : Addr} (h : ¬ p a) : (G.lock F H p).H0 a = G.H0 a := if_neg h
theorem Rl.lockH (R : Rl K G ρ F σ H) {a : Addr} (h : (G.lock F H p).H0 a = none) : G.H0 a = none := by
  by_cases q : p a
  · rw [lock_in q] at h; exact R.h0 h
  · rw [lock_out q] at h; exact h
theorem Rl.lock (R : Rl K G ρ F σ H) (hp : ∀ (i : Nat) (d : D) (a : Addr), ρ[i]? = some (some (EV.ow d)) → σ[i]? = some (some (V.ref a)) → ¬ p a) : Rl K (G.lock F H p) ρ F σ H := by
  refine ⟨R.len, R.sub, Sub.refl _, fun a o e n => ?_, fun a o e n => n, fun i a e => ⟨(R.bh i a e).1, ?_⟩, R.bi, R.bs, fun i e q => ?_, R.inj⟩
  · by_cases q : p a
    · rw [lock_in q] at e; exact e
    · rw [lock_out q] at e; exact R.fr a o e n
  · by_cases q : p a
    · rw [lock_in q]; exact (R.bh i a e).1
    · rw [lock_out q]; exact (R.bh i a e).2
  · obtain ⟨v, hv, s⟩ := R.sl i e q
    refine ⟨v, hv, ?_⟩
    cases e with
    | sh d => exact s
    | ow d =>
      obtain ⟨a, rfl, f, o, z⟩ := s
      exact ⟨a, rfl, f, o, by rw [lock_out (hp i d a q hv)]; exact z⟩
    | bo d => exact s
theorem Rl.unfr (R : Rl K G ρ F σ H) (h : (G.lock F H p).fr H') : G.fr H' := fun a o e n => by
  refine h a o ?_ n
  by_cases q : p a
  · rw [lock_in q]; exact R.fr a o e n
  · rw [lock_out q]; exact e
theorem Rl.unlock (R : Rl K G ρ F σ H) (R' : Rl K (G.lock F H p) ρ' F' σ' H') : Rl K G ρ' F' σ' H' := by
  refine ⟨R'.len, R'.sub, R.mono.trans R'.mono, R.unfr R'.fr, fun a o e n => ?_, fun i a e => ⟨(R'.bh i a e).1, (R.bh i a e).2⟩, R'.bi, R'.bs, fun i e q => ?_, R'.inj⟩
  · have f := R.nw a o e n
    by_cases q : p a
    · have e' : (G.lock F H p).H0 a = H a := lock_in q
      cases z : H a with
      | none => rw [R.h0 z] at e; cases e
      | some u => exact R'.nw a u (e'.trans z) f
    · exact R'.nw a o (by rw [lock_out q]; exact e) f
  · obtain ⟨v, hv, s⟩ := R'.sl i e q
    refine ⟨v, hv, ?_⟩
    cases e with
    | sh d => exact s
    | ow d =>
      obtain ⟨a, rfl, f, o, z⟩ := s
      exact ⟨a, rfl, f, o, R.lockH z⟩
    | bo d => exact s
theorem Rl.unres {f : Bool} {d : D} {v : V} (R : Rl K G ρ F σ H) (r : Res K (G.lock F H p) ρ' F' σ' H' f d v) : Res K G ρ' F' σ' H' f d v := by
  cases f with
  | false => exact r
  | true =>
    unfold Res at r ⊢
    rw [if_pos rfl] at r ⊢
    obtain ⟨a, e1, e2, e3, e4, e5⟩ := r
    exact ⟨a, e1, e2, e3, R.lockH e4, e5⟩
theorem XA.lock (xa : XA EA E EH G) (R : Rl K G ρ F σ H) : XA EA E EH (G.lock F H p) := fun x hx c d H' ha hf => xa x hx c d H' ha (R.unfr hf)
/-- what is locked stays -/
theorem Rl.locked (R' : Rl K (G.lock F H p) ρ' F' σ' H') {a : Addr} {o : HO} (q : p a) (e : H a = some o) (nb : ∀ i, G.b i ≠ some a) : H' a = some o := R'.fr a o ((lock_in q).trans e) nb
theorem Rl.lockedF (R' : Rl K (G.lock F H p) ρ' F' σ' H') {a : Addr} (q : p a) (e : H a ≠ none) (f : F a = none) : F' a = none := by
  cases z : H a with
  | none => exact absurd z e
  | some o => exact R'.nw a o ((lock_in q).trans z) f
/-- no slot's own object is a locked one -/
theorem Rl.lockedO (R' : Rl K (G.lock F H p) ρ' F' σ' H') {a : Addr} (q : p a) (e : H a ≠ none) {i : Nat} {d : D} (h : ρ'[i]? = some (some (EV.ow d))) : σ'[i]? ≠ some (some (V.ref a)) := fun z => by
  obtain ⟨v, hv, a', rfl, _, _, n⟩ := R'.sl i _ h
  rw [hv] at z; cases z
  rw [lock_in q] at n
  exact e n
end

section
variable {K : PySem.W.Frag} {EA : EAT} {E : Exc → Prop} {EH : XK} {G : Gm} {ρ : Env} {F H : Hp} {σ : L2.St} {te ta tb tc : TE} {w wa wb wc : WE} {ts tu : TS} {ws wu : WS} {tt : TT} {wt : WT} {tg : TG} {wg : WG} {tgs : TGs} {wgs : WGs} {ti : TI} {wi : WI}
theorem sim_gCons (s : SimG K EA E EH tg wg) (t : SimGs K EA E EH tgs wgs) : SimGs K EA E EH (L2.gCons tg tgs) (gCons wg wgs) := fun G xa ρ F σ H R ds vs Qd Q a h k => by
  obtain ⟨d, r, rfl, h⟩ := h
  cases a with
  | cons a1 a2 =>
    rename_i v us
    exact ⟨v, us, rfl, s G xa ρ F σ H R d false v _ _ (Res.at a1) h fun ρ1 F1 σ1 H1 q R1 s1 => t G xa ρ1 F1 σ1 H1 R1 r us Qd Q (a2.mono s1) q fun ρ2 F2 σ2 H2 q R2 s2 => k ρ2 F2 σ2 H2 q R2 (s1.trans s2)⟩
theorem sim_gTup {n : Nat} (t : SimGs K EA E EH tgs wgs) : SimG K EA E EH (L2.gTup K n tgs) (gTup n wgs) := fun G xa ρ F σ H R d f v Qd Q r h k => by
  obtain ⟨ds, rfl, hn, h⟩ := h
  obtain ⟨F1, R1, s1, a⟩ := r.fix R
  cases a with
  | tup s a l =>
    rename_i p us
    exact ⟨p, us, rfl, R1.sub.seqT s, by rw [a.length]; exact hn, t G xa ρ F1 σ H R1 ds us Qd Q a h fun ρ2 F2 σ2 H2 q R2 s2 => k ρ2 F2 σ2 H2 q R2 (s1.trans s2)⟩
theorem sim_asg (s : SimE K EA E EH te w) (g : SimG K EA E EH tg wg) : SimS K EA E EH (tAsg te tg) (wAsg w wg) := fun G xa ρ F σ H R P Dn h L =>
  s G xa ρ F σ H R _ _ h fun d f ρ1 v F1 H1 q R1 _ r => g G xa ρ1 F1 σ H1 R1 d f v P.nx Dn.nx r q fun ρ2 F2 σ2 H2 q R2 _ => L.nx ρ2 F2 σ2 H2 q R2
theorem sim_par {i j : Nat} (sa : SimE K EA E EH ta wa) (sb : SimE K EA E EH tb wb) : SimS K EA E EH (tPar i j (tCons ta (tCons tb tNil))) (wPar i j wa wb) := fun G xa ρ F σ H R P Dn h L =>
  sa.run xa R (Qd := fun d ρ1 => wb ρ1 fun e _ ρ2 => free ρ2 i ∧ free ρ2 j ∧ P.nx (setE (setE ρ2 i d false) j e false)) h fun d ρ1 v F1 H1 h1 R1 s1 a1 =>
    sb.run xa R1 (Qd := fun e ρ2 => free ρ2 i ∧ free ρ2 j ∧ P.nx (setE (setE ρ2 i d false) j e false)) h1 fun e ρ2 u F2 H2 h2 R2 s2 a2 => by
      refine ⟨v, u, rfl, L.nx _ F2 _ H2 h2.2.2 ((R2.put h2.1 (Res.at (a1.mono s2))).put ?_ (Res.at a2))⟩
      have h3 := h2.2.1
      unfold setE
      rw [if_neg Bool.false_ne_true]
      unfold free at h3 ⊢
      by_cases q : j = i
      · subst q
        rw [List.getElem?_set_self (free_lt h2.2.1).1]
        trivial
      · rw [List.getElem?_set_ne (Ne.symm q)]
        exact h3
/-- x[e] = value -/
theorem sim_gIx {x : Nat} (s : SimE K EA E EH te w) : SimG K EA E EH (gSub (tVar x) te rSetL) (gIx x w) := fun G xa ρ F σ H R d f v Qd Q r h k => by
  obtain ⟨F1, R1, s1, av⟩ := r.fix R
  obtain ⟨hx0, h⟩ := h
  obtain ⟨d0, hd0⟩ := Option.isSome_iff_exists.mp hx0
  obtain ⟨o, ho, _⟩ := R1.pk hd0
  refine ⟨o, ho, s.run xa R1 (Qd := fun di ρ1 => _) h fun di ρ1 u F2 H2 h2 R2 s2 a2 => ?_⟩
  obtain ⟨ds, i, j, rfl, h2⟩ := h2
  cases a2
  rcases h2 with ⟨he, hj, q⟩ | ⟨he, hj, q⟩
  · obtain ⟨o', ho', a, rfl, fa, hw, h0⟩ := R2.sl x _ he
    rw [ho] at ho'; cases ho'
    obtain ⟨xs, hx, al, ll⟩ := hw
    refine ⟨a, xs, i, j, rfl, rfl, hx, by rw [al.length]; exact hj, ?_⟩
    exact k _ F2 σ _ q (R2.turn (e' := .ow (.list (ds.set j d))) he ho (.inl ⟨_, _, rfl, rfl⟩) ⟨xs.set j v, upd_same, al.set (av.mono s2) j, by rw [List.length_set]; exact ll⟩) (s1.trans s2)
  · obtain ⟨o', ho', a, rfl, fa, hw, h0⟩ := R2.sl x _ he
    rw [ho] at ho'; cases ho'
    obtain ⟨xs, hx, al, ll⟩ := hw
    refine ⟨a, xs, i, j, rfl, rfl, hx, by rw [al.length]; exact hj, ?_⟩
    exact k _ F2 σ _ q (R2.turn (e' := .bo (.list (ds.set j d))) he ho (.inr ⟨_, _, rfl, rfl⟩) ⟨xs.set j v, upd_same, al.set (av.mono s2) j, by rw [List.length_set]; exact ll⟩) (s1.trans s2)
/-- x.append(e) -/
theorem sim_app {x : Nat} (s : SimE K EA E EH te w) : SimS K EA E EH (tDrop (tBM K "list" rAppend (tVar x) (tCons te tNil))) (wApp x w) := fun G xa ρ F σ H R P Dn h L => by
  obtain ⟨hx0, h⟩ := h
  obtain ⟨l0, hd0⟩ : ∃ l0, rdE ρ x = some (.list l0) := by
    unfold isL at hx0
    split at hx0
    · rename_i l0 e; exact ⟨l0, e⟩
    · exact hx0.elim
  obtain ⟨o, ho, pk⟩ := R.pk hd0
  have run : te σ H fun y H2 => rAppend o [y] H2 fun _ H1 => Dn.nx σ H1 := by
    refine s.run xa R (Qd := fun di ρ1 => _) h fun d ρ1 u F2 H2 h2 R2 s2 a2 => ?_
    obtain ⟨ds, hl, h2⟩ := h2
    rcases h2 with ⟨he, q⟩ | ⟨he, q⟩
    · obtain ⟨o', ho', a, rfl, fa, hw, h0⟩ := R2.sl x _ he
      rw [ho] at ho'; cases ho'
      obtain ⟨xs, hx, al, ll⟩ := hw
      refine ⟨a, xs, u, rfl, rfl, hx, by rw [al.length]; exact hl, ?_⟩
      exact L.nx _ F2 σ _ q (R2.turn (e' := .ow (.list (ds ++ [d]))) he ho (.inl ⟨_, _, rfl, rfl⟩) ⟨xs ++ [u], upd_same, al.append (.cons a2 .nil), by rw [List.length_append]; exact hl⟩)
    · obtain ⟨o', ho', a, rfl, fa, hw, h0⟩ := R2.sl x _ he
      rw [ho] at ho'; cases ho'
      obtain ⟨xs, hx, al, ll⟩ := hw
      refine ⟨a, xs, u, rfl, rfl, hx, by rw [al.length]; exact hl, ?_⟩
      exact L.nx _ F2 σ _ q (R2.turn (e' := .bo (.list (ds ++ [d]))) he ho (.inr ⟨_, _, rfl, rfl⟩) ⟨xs ++ [u], upd_same, al.append (.cons a2 .nil), by rw [List.length_append]; exact hl⟩)
  -- that it is a list is asked ahead of the argument
  have isl : tyV K "list" o H := by
    obtain ⟨a, xs, rfl, sq, _⟩ := pk.list R.sub
    exact .inl ⟨rfl, xs, .inl (.inl sq)⟩
  exact ⟨o, ho, isl, run⟩
/-! #### loops -/
theorem sim_for (si : SimI K EA E EH ti wi) (sg : SimG K EA E EH tg wg) (sb : SimS K EA E EH ts ws) : SimS K EA E EH (tFor ti tg ts) (wFor wi wg ws) := fun G xa ρ F σ H R P Dn h L =>
  si G xa ρ F σ H R _ _ h fun ds ρ1 F1 H1 J h1 R1 s1 wk => by
    obtain ⟨w1, w2, w3⟩ := wk
    refine ⟨fun i m σ' H' => ∃ ρ' F', Rl K G ρ' F' σ' H' ∧ Sub F1 F' ∧ i ≤ ds.length ∧ m = ds.length - i ∧ forGo wg ws P (ds.drop i) ρ', ⟨ds.length, ρ1, F1, R1, Sub.refl _, Nat.zero_le _, rfl, by rw [List.drop_zero]; exact h1⟩, ?_⟩
    rintro i m σ' H' ⟨ρ', F', R', s', hi, rfl, h'⟩
    by_cases hlt : i < ds.length
    · refine .inr ⟨w1 i H' (s'.trans R'.sub) hlt, fun σ2 H2 => ∃ ρ2 F2, Rl K G ρ2 F2 σ2 H2 ∧ Sub F1 F2 ∧ forGo wg ws P (ds.drop (i + 1)) ρ2, ?_, fun x H2 y => ?_⟩
      · rintro σ2 H2 ⟨ρ2, F2, R2, s2, h2⟩
        exact ⟨ds.length - (i + 1), by omega, ρ2, F2, R2, s2, hlt, rfl, h2⟩
      · obtain ⟨F2, g, a⟩ := w3 i H' x H2 (s'.trans R'.sub) y ds[i] (List.getElem?_eq_getElem hlt) F' s' R'.sub
        rw [List.drop_eq_getElem_cons hlt] at h'
        have R2 := R'.grow g
        refine sg G xa ρ' F2 σ' H2 R2 _ false x _ _ (Res.at a) h' fun ρ3 F3 σ3 H3 q R3 s3 => ?_
        have s4 : Sub F1 F3 := (s'.trans g.ff).trans s3
        have RL := R3.lock (p := fun _ => False) fun _ _ _ _ _ z => z
        have back : ∀ {ρ4 : Env} {F4 H4 : Hp} {σ4 : L2.St}, forGo wg ws P (ds.drop (i + 1)) ρ4 → Rl K (G.lock F3 H3 fun _ => False) ρ4 F4 σ4 H4 → ∃ ρ2 F2, Rl K G ρ2 F2 σ4 H4 ∧ Sub F1 F2 ∧ forGo wg ws P (ds.drop (i + 1)) ρ2 :=
          fun {ρ4 F4 H4 σ4} q4 R4 => ⟨ρ4, F4, R3.unlock R4, s4.trans R4.mono, q4⟩
        exact sb _ (xa.lock R3) ρ3 F3 σ3 H3 RL { P with nx := forGo wg ws P (ds.drop (i + 1)), ct := forGo wg ws P (ds.drop (i + 1)), bk := P.nx } _ q
          ⟨fun ρ4 F4 σ4 H4 q4 R4 => back q4 R4, fun d f ρ4 v F4 σ4 H4 q4 R4 r4 => L.rt d f ρ4 v F4 σ4 H4 q4 (R3.unlock R4) (R3.unres r4), fun ρ4 F4 σ4 H4 q4 R4 => L.nx ρ4 F4 σ4 H4 q4 (R3.unlock R4), fun ρ4 F4 σ4 H4 q4 R4 => back q4 R4⟩
    · have e : ds.drop i = [] := List.drop_eq_nil_iff.mpr (by omega)
      rw [e] at h'
      exact .inl ⟨w2 i H' (s'.trans R'.sub) (by omega), L.nx ρ' F' σ' H' h' R'⟩
theorem sim_while (st : SimT K EA E EH tt wt) (sb : SimS K EA E EH ts ws) : SimS K EA E EH (tWhile tt ts) (wWhile wt ws) := fun G xa ρ F σ H R P Dn h L => by
  obtain ⟨W, ⟨m0, h0⟩, step⟩ := h
  refine ⟨fun m σ' H' => ∃ ρ' F', Rl K G ρ' F' σ' H' ∧ W m ρ', ⟨m0, ρ, F, R, h0⟩, ?_⟩
  rintro m σ' H' ⟨ρ', F', R', h'⟩
  refine st G xa ρ' F' σ' H' R' _ _ (step m ρ' h') fun b ρ1 F1 H1 q R1 s1 => ?_
  cases b with
  | true =>
    rw [if_pos rfl]
    have back : ∀ {ρ4 : Env} {F4 H4 : Hp} {σ4 : L2.St}, (∃ m', m' < m ∧ W m' ρ4) → Rl K G ρ4 F4 σ4 H4 → ∃ m', m' < m ∧ ∃ ρ2 F2, Rl K G ρ2 F2 σ4 H4 ∧ W m' ρ2 := fun {ρ4 F4 H4 σ4} q4 R4 => by
      obtain ⟨m', lt, w⟩ := q4
      exact ⟨m', lt, ρ4, F4, R4, w⟩
    exact ⟨fun σ2 H2 => ∃ m', m' < m ∧ ∃ ρ2 F2, Rl K G ρ2 F2 σ2 H2 ∧ W m' ρ2, fun σ2 H2 z => z, sb G xa ρ1 F1 σ' H1 R1 _ _ (q.1 rfl)
      ⟨fun ρ4 F4 σ4 H4 q4 R4 => back q4 R4, L.rt, fun ρ4 F4 σ4 H4 q4 R4 => L.nx ρ4 F4 σ4 H4 q4 R4, fun ρ4 F4 σ4 H4 q4 R4 => back q4 R4⟩⟩
  | false =>
    rw [if_neg Bool.false_ne_true]
    exact L.nx ρ1 F1 σ' H1 (q.2 rfl) R1
/-! #### what is walked -/
theorem walks_list {a : Addr} {xs : List V} {ds : List D} (s : SqL K F a xs) (al : AtL K F xs ds) : Walks K F ds (Itl K a) := by
  refine ⟨fun i H e h => ?_, fun i H e h => ⟨xs, e.seqL s, by rw [al.length]; exact h⟩, fun i H x H' e y d hd F1 e1 e2 => ?_⟩
  · rw [← al.length] at h
    exact ⟨xs, xs[i], e.seqL s, List.getElem?_eq_getElem h⟩
  · obtain ⟨rfl, y⟩ := y
    obtain ⟨v, hv, av⟩ := al.getD hd
    have : some x = some v := (y xs (e.seqL s)).symm.trans hv
    cases this
    exact ⟨F1, Gr.same e2, av.mono e1⟩
theorem walks_tup {a : Addr} {xs : List V} {ds : List D} (s : SqT K F a xs) (al : AtL K F xs ds) : Walks K F ds (Itt K a) := by
  refine ⟨fun i H e h => ?_, fun i H e h => ⟨xs, e.seqT s, by rw [al.length]; exact h⟩, fun i H x H' e y d hd F1 e1 e2 => ?_⟩
  · rw [← al.length] at h
    exact ⟨xs, xs[i], e.seqT s, List.getElem?_eq_getElem h⟩
  · obtain ⟨rfl, y⟩ := y
    obtain ⟨v, hv, av⟩ := al.getD hd
    have : some x = some v := (y xs (e.seqT s)).symm.trans hv
    cases this
    exact ⟨F1, Gr.same e2, av.mono e1⟩
theorem walks_rng {lo : Int} {n : Nat} : Walks K F (rangeL lo n) (Itr lo n) := by
  have len : (rangeL lo n).length = n := by unfold rangeL; rw [List.length_map, List.length_range]
  refine ⟨fun i H e h => by rw [len] at h; exact h, fun i H e h => by rw [len] at h; exact h, fun i H x H' e y d hd F1 e1 e2 => ?_⟩
  obtain ⟨rfl, rfl⟩ := y
  have hi : i < n := by
    have h := (List.getElem?_eq_some_iff.mp hd).1
    rw [len] at h; exact h
  have q : (rangeL lo n)[i]? = some (.int (lo + (i : Nat))) := by
    unfold rangeL
    rw [List.getElem?_map, List.getElem?_range hi]
    rfl
  rw [q] at hd; cases hd
  exact ⟨F1, Gr.same e2, .int _⟩
/-- over a list or a tuple -/
def iSeq (K : PySem.W.Frag) (tl : TE) : TI := fun σ H R => tl σ H fun x H1 => ∃ a, x = .ref a ∧ (((∃ xs, SqL K H1 a xs) ∧ R (Itl K a) H1) ∨ ((∃ xs, SqT K H1 a xs) ∧ R (Itt K a) H1))
theorem sim_itS (s : SimE K EA E EH te w) : SimI K EA E EH (iSeq K te) (itS w) := fun G xa ρ F σ H R Qd Q h k =>
  s.run xa R (Qd := fun d ρ1 => ∃ xs, (d = .list xs ∨ d = .tuple xs) ∧ Qd xs ρ1) h fun d ρ1 v F1 H1 h1 R1 s1 a1 => by
    obtain ⟨ds, hd, q⟩ := h1
    rcases hd with rfl | rfl
    · cases a1 with
      | lst s al l => exact ⟨_, rfl, .inl ⟨⟨_, .inl (.inl (R1.sub _ _ s))⟩, k ds ρ1 F1 H1 _ q R1 s1 (walks_list (.inl (.inl s)) al)⟩⟩
    · cases a1 with
      | tup s al l => exact ⟨_, rfl, .inr ⟨⟨_, R1.sub.seqT s⟩, k ds ρ1 F1 H1 _ q R1 s1 (walks_tup s al)⟩⟩
theorem sim_itR1 (s : SimE K EA E EH te w) : SimI K EA E EH (iRng1 (tCons te tNil)) (itR1 w) := fun G xa ρ F σ H R Qd Q h k =>
  s.run xa R (Qd := fun d ρ1 => ∃ n : Int, d = .int n ∧ -4611686018427387904 ≤ n ∧ n < 4611686018427387904 ∧ Qd (rangeL 0 n.toNat) ρ1) h fun d ρ1 v F1 H1 h1 R1 s1 a1 => by
    obtain ⟨n, rfl, h1, h2, q⟩ := h1
    cases a1
    exact ⟨n, rfl, h1, h2, k _ ρ1 F1 H1 _ q R1 s1 walks_rng⟩
theorem sim_itR2 (sa : SimE K EA E EH ta wa) (sb : SimE K EA E EH tb wb) : SimI K EA E EH (iRng2 (tCons ta (tCons tb tNil))) (itR2 wa wb) := fun G xa ρ F σ H R Qd Q h k =>
  sa.run xa R (Qd := fun d ρ1 => wb ρ1 fun e _ ρ2 => ∃ m n : Int, d = .int m ∧ e = .int n ∧ (-4611686018427387904 ≤ m ∧ m < 4611686018427387904 ∧ -4611686018427387904 ≤ n ∧ n < 4611686018427387904) ∧ Qd (rangeL m (n - m).toNat) ρ2) h fun d ρ1 v F1 H1 h1 R1 s1 a1 =>
    sb.run xa R1 (Qd := fun e ρ2 => ∃ m n : Int, d = .int m ∧ e = .int n ∧ (-4611686018427387904 ≤ m ∧ m < 4611686018427387904 ∧ -4611686018427387904 ≤ n ∧ n < 4611686018427387904) ∧ Qd (rangeL m (n - m).toNat) ρ2) h1 fun e ρ2 u F2 H2 h2 R2 s2 a2 => by
      obtain ⟨m, n, rfl, rfl, b, q⟩ := h2
      cases a1
      cases a2
      exact ⟨m, n, rfl, b, k _ ρ2 F2 H2 _ q R2 (s1.trans s2) walks_rng⟩
end

/-! #### comprehensions -/
theorem wipe_get {vs : List Nat} {σ : L2.St} {j : Nat} : (wipe σ vs)[j]? = if j ∈ vs ∧ j < σ.length then some none else σ[j]? := by
  induction vs with
  | nil => simp [wipe]
  | cons v vs ih =>
    show ((wipe σ vs).set v none)[j]? = _
    by_cases e : v = j
    · subst e
      by_cases h : v < σ.length
      · rw [List.getElem?_set_self (by rw [wipe_length]; exact h), if_pos ⟨List.mem_cons_self, h⟩]
      · rw [if_neg fun z => h z.2, List.getElem?_eq_none (by rw [List.length_set, wipe_length]; omega), List.getElem?_eq_none (by omega)]
    · rw [List.getElem?_set_ne e, ih]
      by_cases h : j ∈ vs ∧ j < σ.length
      · rw [if_pos h, if_pos ⟨List.mem_cons_of_mem _ h.1, h.2⟩]
      · rw [if_neg h, if_neg]
        rintro ⟨h1, h2⟩
        rcases List.mem_cons.mp h1 with q | q
        · exact e q.symm
        · exact h ⟨q, h2⟩
theorem wipeE_length (ρ : Env) : ∀ vs : List Nat, (wipeE ρ vs).length = ρ.length
  | [] => rfl
  | v :: vs => by unfold wipeE; rw [List.length_set, wipeE_length ρ vs]
theorem wipeE_get {vs : List Nat} {ρ : Env} {j : Nat} : (wipeE ρ vs)[j]? = if j ∈ vs ∧ j < ρ.length then some none else ρ[j]? := by
  induction vs with
  | nil => simp [wipeE]
  | cons v vs ih =>
    show ((wipeE ρ vs).set v none)[j]? = _
    by_cases e : v = j
    · subst e
      by_cases h : v < ρ.length
      · rw [List.getElem?_set_self (by rw [wipeE_length]; exact h), if_pos ⟨List.mem_cons_self, h⟩]
      · rw [if_neg fun z => h z.2, List.getElem?_eq_none (by rw [List.length_set, wipeE_length]; omega), List.getElem?_eq_none (by omega)]
    · rw [List.getElem?_set_ne e, ih]
      by_cases h : j ∈ vs ∧ j < ρ.length
      · rw [if_pos h, if_pos ⟨List.mem_cons_of_mem _ h.1, h.2⟩]
      · rw [if_neg h, if_neg]
        rintro ⟨h1, h2⟩
        rcases List.mem_cons.mp h1 with q | q
        · exact e q.symm
        · exact h ⟨q, h2⟩
theorem backE_length (ρ0 ρ : Env) : ∀ vs : List Nat, (backE ρ0 ρ vs).length = ρ.length
  | [] => rfl
  | v :: vs => by unfold backE; rw [List.length_set, backE_length ρ0 ρ vs]
theorem backE_get {vs : List Nat} {ρ0 ρ : Env} {j : Nat} (hl : ρ0.length = ρ.length) : (backE ρ0 ρ vs)[j]? = if j ∈ vs then ρ0[j]? else ρ[j]? := by
  induction vs with
  | nil => simp [backE]
  | cons v vs ih =>
    show ((backE ρ0 ρ vs).set v (ρ0[v]?.getD none))[j]? = _
    by_cases e : v = j
    · subst e
      rw [if_pos List.mem_cons_self]
      by_cases h : v < ρ.length
      · rw [List.getElem?_set_self (by rw [backE_length]; exact h)]
        obtain ⟨x, hx⟩ : ∃ x, ρ0[v]? = some x := ⟨_, List.getElem?_eq_getElem (by omega)⟩
        rw [hx]; rfl
      · rw [List.getElem?_eq_none (by rw [List.length_set, backE_length]; omega), List.getElem?_eq_none (by omega)]
    · rw [List.getElem?_set_ne e, ih]
      by_cases h : j ∈ vs
      · rw [if_pos h, if_pos (List.mem_cons_of_mem _ h)]
      · rw [if_neg h, if_neg]
        intro h1
        rcases List.mem_cons.mp h1 with q | q
        · exact e q.symm
        · exact h q
theorem wipe_eq {vs : List Nat} {σ σ' : L2.St} (hl : σ'.length = σ.length) (h : ∀ j, j ∉ vs → σ'[j]? = σ[j]?) : wipe σ' vs = wipe σ vs := by
  apply List.ext_getElem?
  intro j
  rw [wipe_get, wipe_get, hl]
  by_cases q : j ∈ vs ∧ j < σ.length
  · rw [if_pos q, if_pos q]
  · rw [if_neg q, if_neg q]
    by_cases m : j ∈ vs
    · have : σ.length ≤ j := by
        apply Nat.le_of_not_lt
        exact fun z => q ⟨m, z⟩
      rw [List.getElem?_eq_none (by omega), List.getElem?_eq_none this]
    · exact h j m
theorem wipe_wipe {vs : List Nat} {σ : L2.St} : wipe (wipe σ vs) vs = wipe σ vs := wipe_eq (wipe_length _ _) fun j h => by
  rw [wipe_get, if_neg fun z => h z.1]
/-- a target that sets these slots alone -/
def Sets (tg : TG) (vs : List Nat) : Prop := ∀ v σ H Q, tg v σ H Q → tg v σ H fun σ' H' => wipe σ' vs = wipe σ vs ∧ Q σ' H'
def SetsL (tg : TGs) (vs : List Nat) : Prop := ∀ us σ H Q, tg us σ H Q → tg us σ H fun σ' H' => wipe σ' vs = wipe σ vs ∧ Q σ' H'
theorem sets_name {i : Nat} {vs : List Nat} (h : i ∈ vs) : Sets (gName i) vs := fun v σ H Q q => ⟨wipe_eq (by rw [List.length_set]) fun j hj => List.getElem?_set_ne (by rintro rfl; exact hj h), q⟩
theorem sets_nil {vs : List Nat} : SetsL L2.gNil vs := fun us σ H Q q => ⟨q.1, rfl, q.2⟩
/-- targets do no more for a weaker wish -/
def MonoG (tg : TG) : Prop := ∀ v σ H (Q Q' : L2.St → Hp → Prop), (∀ σ' H', Q σ' H' → Q' σ' H') → tg v σ H Q → tg v σ H Q'
def MonoGs (tg : TGs) : Prop := ∀ v σ H (Q Q' : L2.St → Hp → Prop), (∀ σ' H', Q σ' H' → Q' σ' H') → tg v σ H Q → tg v σ H Q'
theorem mono_name {i : Nat} : MonoG (gName i) := fun v σ H Q Q' h q => h _ _ q
theorem mono_nil : MonoGs L2.gNil := fun v σ H Q Q' h q => ⟨q.1, h _ _ q.2⟩
theorem mono_cons {tg : TG} {tgs : TGs} (m : MonoG tg) (ms : MonoGs tgs) : MonoGs (L2.gCons tg tgs) := fun vs σ H Q Q' h ⟨v, r, e, q⟩ => ⟨v, r, e, m _ _ _ _ _ (fun σ' H' q => ms _ _ _ _ _ h q) q⟩
theorem mono_tup {K : PySem.W.Frag} {n : Nat} {tgs : TGs} (ms : MonoGs tgs) : MonoG (L2.gTup K n tgs) := fun v σ H Q Q' h ⟨a, xs, e, s, l, q⟩ => ⟨a, xs, e, s, l, ms _ _ _ _ _ h q⟩
theorem sets_cons {tg : TG} {tgs : TGs} {vs : List Nat} (m : MonoG tg) (ms : MonoGs tgs) (s : Sets tg vs) (ss : SetsL tgs vs) : SetsL (L2.gCons tg tgs) vs := fun us σ H Q ⟨v, r, e, q⟩ =>
  ⟨v, r, e, m _ _ _ _ _ (fun σ' H' ⟨e1, q1⟩ => ms _ _ _ _ _ (fun σ2 H2 ⟨e2, q2⟩ => ⟨e2.trans e1, q2⟩) (ss _ _ _ _ q1)) (s _ _ _ _ q)⟩
theorem sets_tup {K : PySem.W.Frag} {n : Nat} {tgs : TGs} {vs : List Nat} (ss : SetsL tgs vs) : Sets (L2.gTup K n tgs) vs := fun v σ H Q ⟨a, xs, e, s, l, q⟩ => ⟨a, xs, e, s, l, ss _ _ _ _ q⟩
theorem frees_of {ρ : Env} : ∀ {vs : List Nat}, frees ρ vs → ∀ v ∈ vs, free ρ v
  | _ :: _, h, v, hv => by
    rcases List.mem_cons.mp hv with rfl | q
    · exact h.1
    · exact frees_of h.2 v q
section
variable {K : PySem.W.Frag} {EA : EAT} {E : Exc → Prop} {EH : XK} {G : Gm} {ρ ρ1 ρ' : Env} {F F1 F' H H1 : Hp} {σ : L2.St} {vs : List Nat}
theorem Rl.wiped (R : Rl K G ρ F σ H) (h : ∀ v ∈ vs, G.b v = none) : Rl K G (wipeE ρ vs) F (wipe σ vs) H := by
  have sm : ∀ {j : Nat} {e : EV}, (wipeE ρ vs)[j]? = some (some e) → ρ[j]? = some (some e) ∧ (L2.wipe σ vs)[j]? = σ[j]? := fun {j e} q => by
    rw [wipeE_get] at q
    by_cases m : j ∈ vs ∧ j < ρ.length
    · rw [if_pos m] at q; cases q
    · rw [if_neg m] at q
      refine ⟨q, ?_⟩
      rw [wipe_get, R.len, if_neg m]
  refine ⟨by rw [wipeE_length, wipe_length]; exact R.len, R.sub, R.mono, R.fr, R.nw, R.bh, R.bi, fun i a e => ?_, fun i e q => ?_, fun i j a d e q1 q2 s1 s2 => ?_⟩
  · obtain ⟨d, q⟩ := R.bs i a e
    refine ⟨d, ?_⟩
    rw [wipeE_get, if_neg]
    · exact q
    · rintro ⟨z, _⟩; rw [h i z] at e; cases e
  · obtain ⟨q1, q2⟩ := sm q
    rw [q2]; exact R.sl i e q1
  · obtain ⟨p1, p2⟩ := sm q1
    obtain ⟨p3, p4⟩ := sm q2
    rw [p2] at s1
    rw [p4] at s2
    exact R.inj i j a d e p1 p3 s1 s2
/-- an object aside is changed -/
theorem Rl.side {a : Addr} {o : HO} (R : Rl K G ρ F σ H) (fa : F a = none) (h0 : G.H0 a = none) (no : ∀ (i : Nat) (d : D), ρ[i]? = some (some (EV.ow d)) → σ[i]? ≠ some (some (V.ref a))) : Rl K G ρ F σ (upd H a o) := by
  refine ⟨R.len, fun b u q => by rw [upd_ne (ne_of_none q fa)]; exact R.sub b u q, R.mono, fun b u q n => ?_, R.nw, fun j b q => ⟨?_, (R.bh j b q).2⟩, R.bi, R.bs, fun j e q => ?_, R.inj⟩
  · rw [upd_ne]
    · exact R.fr b u q n
    · rintro rfl; rw [h0] at q; cases q
  · rw [upd_ne]
    · exact (R.bh j b q).1
    · rintro rfl; exact (R.bh j b q).2 h0
  · obtain ⟨v, hv, s⟩ := R.sl j e q
    refine ⟨v, hv, ?_⟩
    cases e with
    | sh d => exact s
    | ow d =>
      obtain ⟨c, rfl, f, w, z⟩ := s
      have n : c ≠ a := by rintro rfl; exact no j d q hv
      exact ⟨c, rfl, f, w.mono (Sub.refl _) (fun u e => by rw [upd_ne n]; exact e), z⟩
    | bo d =>
      obtain ⟨c, rfl, f, w, z⟩ := s
      have n : c ≠ a := by rintro rfl; exact (R.bh j c z).2 h0
      exact ⟨c, rfl, f, w.mono (Sub.refl _) (fun u e => by rw [upd_ne n]; exact e), z⟩
/-- behind the block: the wiped slots as they were -/
theorem Rl.comeback (R1 : Rl K G ρ1 F1 σ H1) (R' : Rl K G ρ' F' (wipe σ vs) H) (sf : Sub F1 F') (hl : ρ1.length = ρ'.length) (hb : ∀ v ∈ vs, G.b v = none)
    (keep : ∀ (i : Nat) (d : D) (a : Addr), i ∈ vs → ρ1[i]? = some (some (EV.ow d)) → σ[i]? = some (some (V.ref a)) → H a = H1 a ∧ F' a = none ∧ ∀ (j : Nat) (e : D), ρ'[j]? = some (some (EV.ow e)) → (L2.wipe σ vs)[j]? ≠ some (some (V.ref a))) :
    Rl K G (backE ρ1 ρ' vs) F' σ H := by
  have out : ∀ {j : Nat}, j ∉ vs → (L2.wipe σ vs)[j]? = σ[j]? := fun {j} h => by rw [wipe_get, if_neg fun z => h z.1]
  refine ⟨by rw [backE_length, ← hl]; exact R1.len, R'.sub, R'.mono, R'.fr, R'.nw, R'.bh, R'.bi, fun i a e => ?_, fun i e q => ?_, fun i j a d e q1 q2 s1 s2 => ?_⟩
  · obtain ⟨d, q⟩ := R'.bs i a e
    refine ⟨d, ?_⟩
    rw [backE_get hl, if_neg]
    · exact q
    · intro z; rw [hb i z] at e; cases e
  · rw [backE_get hl] at q
    by_cases m : i ∈ vs
    · rw [if_pos m] at q
      obtain ⟨v, hv, s⟩ := R1.sl i e q
      refine ⟨v, hv, ?_⟩
      cases e with
      | sh d => exact At.mono sf s
      | ow d =>
        obtain ⟨a, rfl, f, w, z⟩ := s
        obtain ⟨k1, k2, _⟩ := keep i d a m q hv
        exact ⟨a, rfl, k2, w.mono sf (fun u e => k1.trans e), z⟩
      | bo d =>
        obtain ⟨a, rfl, f, w, z⟩ := s
        rw [hb i m] at z; cases z
    · rw [if_neg m] at q
      rw [← out m]
      exact R'.sl i e q
  · rw [backE_get hl] at q1 q2
    by_cases m1 : i ∈ vs
    · rw [if_pos m1] at q1
      by_cases m2 : j ∈ vs
      · rw [if_pos m2] at q2
        exact R1.inj i j a d e q1 q2 s1 s2
      · rw [if_neg m2] at q2
        rw [← out m2] at s2
        exact absurd s2 ((keep i d a m1 q1 s1).2.2 j e q2)
    · rw [if_neg m1] at q1
      rw [← out m1] at s1
      by_cases m2 : j ∈ vs
      · rw [if_pos m2] at q2
        exact absurd s1 ((keep j e a m2 q2 s2).2.2 i d q1)
      · rw [if_neg m2] at q2
        rw [← out m2] at s2
        exact R'.inj i j a d e q1 q2 s1 s2
end
section
variable {K : PySem.W.Frag} {EA : EAT} {E E' : Exc → Prop} {EH EH' : XK} {ti : TI} {wi : WI} {tg : TG} {wg : WG} {tt : TT} {wt : WT} {te : TE} {w : WE} {vs : List Nat}
theorem sim_lc (si : SimI K EA E EH ti wi) (sg : SimG K EA E' EH' tg wg) (hs : Sets tg vs) (hm : MonoG tg) (st : SimT K EA E' EH' tt wt) (se : SimE K EA E' EH' te w) (hE : ∀ x, ¬ E' x) :
    SimE K EA E EH (tLc ti tg tt te vs) (wLc wi wg wt w vs) := fun G xa ρ F σ H R Qd Q h k =>
  si G xa ρ F σ H R _ _ h fun ds ρ1 F1 H1 J h1 R1 s1 wk D0 hD => by
    obtain ⟨hlim, hfr, h1⟩ := h1
    obtain ⟨w1, w2, w3⟩ := wk
    have hb : ∀ v ∈ vs, G.b v = none := fun v hv => by
      cases e : G.b v with
      | none => rfl
      | some a =>
        obtain ⟨d, q⟩ := R1.bs v a e
        exact absurd q ((free_lt (frees_of hfr v hv)).2 d)
    have nbD : ∀ i, G.b i ≠ some D0 := fun i e => (R1.bh i D0 e).1 hD
    have h0D : G.H0 D0 = none := R1.h0 hD
    have x0 : ∀ G', XA EA E' EH' G' := fun G' x hx => (hE x hx).elim
    let p : Addr → Prop := fun a => a = D0 ∨ ∃ (i : Nat) (d : D), i ∈ vs ∧ ρ1[i]? = some (some (EV.ow d)) ∧ σ[i]? = some (some (V.ref a))
    have pD : p D0 := .inl rfl
    have pOw : ∀ a, p a → a ≠ D0 → H1 a ≠ none ∧ F1 a = none ∧ G.H0 a = none := fun a q n => by
      rcases q with q | ⟨i, d, hi, e, s⟩
      · exact absurd q n
      · obtain ⟨v, hv, a', rfl, f, o, z⟩ := R1.sl i _ e
        rw [s] at hv; cases hv
        exact ⟨o.ne, f, z⟩
    have pNb : ∀ a, p a → ∀ i, G.b i ≠ some a := fun a q i e => by
      by_cases n : a = D0
      · subst n; exact nbD i e
      · exact (R1.bh i a e).2 (pOw a q n).2.2
    let S : Nat → Hp → Env → Hp → List V → List D → Prop := fun i H' ρ' F' acc ad => Rl K G ρ' F' (wipe σ vs) H' ∧ Sub F1 F' ∧ i ≤ ds.length ∧ H' D0 = some (.lst acc) ∧ AtL K F' acc ad ∧ ad.length ≤ i ∧ (∀ a, p a → F' a = none) ∧ (∀ a, p a → a ≠ D0 → H' a = H1 a) ∧
      (∀ (j : Nat) (d : D) (a : Addr), ρ'[j]? = some (some (EV.ow d)) → (wipe σ vs)[j]? = some (some (V.ref a)) → ¬ p a) ∧ ρ1.length = ρ'.length ∧ lcGo wg wt w vs (fun acc ρ2 => Qd (.list acc) true (backE ρ1 ρ2 vs)) (ds.drop i) ad ρ'
    refine ⟨fun i m H' => m = ds.length - i ∧ ∃ ρ' F' acc ad, S i H' ρ' F' acc ad, ⟨ds.length, rfl, wipeE ρ1 vs, F1, [], [], ?_⟩, ?_⟩
    · refine ⟨(R1.wiped hb).grow (Gr.own R1.sub hD), Sub.refl _, Nat.zero_le _, upd_same, .nil, Nat.le_refl _, fun a q => ?_, fun a q n => upd_ne n, fun j d a q s z => ?_, (wipeE_length _ _).symm, by rw [List.drop_zero]; exact h1⟩
      · by_cases n : a = D0
        · subst n; exact sub_none R1.sub hD
        · exact (pOw a q n).2.1
      · rw [wipeE_get] at q
        by_cases m : j ∈ vs ∧ j < ρ1.length
        · rw [if_pos m] at q; cases q
        · rw [if_neg m] at q
          have nj : j ∉ vs := fun z => m ⟨z, (List.getElem?_eq_some_iff.mp q).1⟩
          rw [wipe_get, if_neg fun z => nj z.1] at s
          rcases z with rfl | ⟨i, d', hi, e, s'⟩
          · obtain ⟨v, hv, a', rfl, f, o, z⟩ := R1.sl j _ q
            rw [s] at hv; cases hv
            exact o.ne hD
          · exact nj (R1.inj i j a d' d e q s' s ▸ hi)
    · rintro i m H' ⟨rfl, ρ', F', acc, ad, R', sf, hi, hacc, hal, hlen, hpF, hpH, hpo, hll, h'⟩
      by_cases hlt : i < ds.length
      · refine .inr ⟨w1 i H' (sf.trans R'.sub) hlt, fun H2 => ∃ ρ' F' acc ad, S (i + 1) H2 ρ' F' acc ad, fun H2 z => ⟨ds.length - (i + 1), by omega, rfl, z⟩, fun x H2 y => ?_⟩
        obtain ⟨F2, g, a⟩ := w3 i H' x H2 (sf.trans R'.sub) y ds[i] (List.getElem?_eq_getElem hlt) F' sf R'.sub
        rw [List.drop_eq_getElem_cons hlt] at h'
        have R2 := R'.grow g
        have RL := R2.lock (p := p) fun j d a q s => hpo j d a q s
        have pH2 : ∀ a, p a → H2 a ≠ none ∧ F2 a = none ∧ (a ≠ D0 → H2 a = H1 a) := fun a q => by
          have hn : H' a ≠ none := by
            by_cases n : a = D0
            · subst n; rw [hacc]; exact fun z => nomatch z
            · rw [hpH a q n]; exact (pOw a q n).1
          refine ⟨?_, by rw [g.nw a hn]; exact hpF a q, fun n => ?_⟩
          · cases e : H' a with
            | none => exact absurd e hn
            | some o => rw [g.hh a o e]; exact fun z => nomatch z
          · cases e : H1 a with
            | none => exact absurd e (pOw a q n).1
            | some o => exact g.hh a o ((hpH a q n).trans e)
        have hD2 : H2 D0 = some (.lst acc) := g.hh _ _ hacc
        -- behind the turn: what the next one begins with
        have fin : ∀ {ρ5 : Env} {F5 H5 : Hp} {σ5 : L2.St} {acc' : List V} {ad' : List D}, Rl K (G.lock F2 H2 p) ρ5 F5 σ5 H5 → L2.wipe σ5 vs = L2.wipe σ vs → AtL K F5 acc' ad' → ad'.length ≤ i + 1 →
            lcGo wg wt w vs (fun acc ρ2 => Qd (.list acc) true (backE ρ1 ρ2 vs)) (ds.drop (i + 1)) ad' (wipeE ρ5 vs) → ∀ H6, H6 D0 = some (.lst acc') → (∀ b, b ≠ D0 → H6 b = H5 b) → H6 = upd H5 D0 (.lst acc') → S (i + 1) H6 (wipeE ρ5 vs) F5 acc' ad' := fun {ρ5 F5 H5 σ5 acc' ad'} R5 ew al len5 q H6 e6 o6 u6 => by
          have pF5 : ∀ a, p a → F5 a = none := fun a q => R5.lockedF q (pH2 a q).1 (pH2 a q).2.1
          have R5' := (R2.unlock R5).wiped hb
          rw [ew] at R5'
          have o5 : ∀ (j : Nat) (d : D) (a : Addr), (wipeE ρ5 vs)[j]? = some (some (EV.ow d)) → (L2.wipe σ vs)[j]? = some (some (V.ref a)) → ¬ p a := fun j d a q s z => by
            rw [wipeE_get] at q
            by_cases m : j ∈ vs ∧ j < ρ5.length
            · rw [if_pos m] at q; cases q
            · rw [if_neg m] at q
              have nj : j ∉ vs := fun z => m ⟨z, (List.getElem?_eq_some_iff.mp q).1⟩
              rw [← ew, wipe_get, if_neg fun z => nj z.1] at s
              exact R5.lockedO z (pH2 a z).1 q s
          refine ⟨?_, ((sf.trans g.ff).trans R5.mono), hlt, e6, al, len5, pF5, fun a q n => ?_, o5, ?_, q⟩
          · rw [u6]
            exact R5'.side (pF5 D0 pD) h0D fun j d q s => o5 j d D0 q s pD
          · rw [o6 a n]
            cases e : H2 a with
            | none => exact absurd e (pH2 a q).1
            | some o => rw [R5.locked q e (pNb a q), ← e]; exact (pH2 a q).2.2 n
          · rw [wipeE_length, ← R5.len]
            have l1 := congrArg List.length ew
            rw [wipe_length, wipe_length] at l1
            rw [l1, ← R1.len]
        have main := hs x (L2.wipe σ vs) H2 _ (sg _ (x0 _) ρ' F2 (L2.wipe σ vs) H2 RL _ false x _ (fun σ3 H3 => L2.wipe σ3 vs = L2.wipe σ vs → tt σ3 H3 fun b H4 => if b = true then te σ3 H4 fun y H5 => ∃ acc, H5 D0 = some (.lst acc) ∧ acc.length < sizeLine ∧ ∃ ρ' F' acc2 ad, S (i + 1) (upd H5 D0 (.lst (acc ++ [y]))) ρ' F' acc2 ad else ∃ ρ' F' acc ad, S (i + 1) H4 ρ' F' acc ad) (Res.at a) h' fun ρ3 F3 σ3 H3 q R3 s3 ew => ?_)
        · rw [wipe_wipe] at main
          exact hm _ _ _ _ _ (fun σ' H' z => ⟨z.1, z.2 z.1⟩) main
        · refine st _ (x0 _) ρ3 F3 σ3 H3 R3 _ _ q fun b ρ4 F4 H4 q4 R4 s4 => ?_
          cases b with
          | true =>
            rw [if_pos rfl]
            refine se.run (x0 _) R4 (Qd := fun d ρ5 => lcGo wg wt w vs (fun acc ρ2 => Qd (.list acc) true (backE ρ1 ρ2 vs)) (ds.drop (i + 1)) (ad ++ [d]) (wipeE ρ5 vs)) (q4.1 rfl) fun d ρ5 v F5 H5 q5 R5 s5 a5 => ?_
            have hD5 : H5 D0 = some (.lst acc) := R5.locked pD hD2 nbD
            refine ⟨acc, hD5, ?_, wipeE ρ5 vs, F5, acc ++ [v], ad ++ [d], fin R5 ew ?_ ?_ q5 _ upd_same (fun b n => upd_ne n) rfl⟩
            · rw [hal.length]
              exact Nat.lt_of_le_of_lt hlen (Nat.lt_of_lt_of_le hlt hlim)
            · exact ((hal.mono g.ff).mono R5.mono).append (.cons a5 .nil)
            · rw [List.length_append]; exact Nat.add_le_add hlen (Nat.le_refl 1)
          | false =>
            rw [if_neg Bool.false_ne_true]
            have hD4 : H4 D0 = some (.lst acc) := R4.locked pD hD2 nbD
            refine ⟨wipeE ρ4 vs, F4, acc, ad, fin R4 ew ((hal.mono g.ff).mono R4.mono) (by omega) (q4.2 rfl) H4 hD4 (fun b n => rfl) ?_⟩
            funext b
            by_cases n : b = D0
            · subst n; rw [upd_same]; exact hD4
            · rw [upd_ne n]
      · have e : ds.drop i = [] := List.drop_eq_nil_iff.mpr (by omega)
        rw [e] at h'
        refine .inl ⟨w2 i H' (sf.trans R'.sub) (by omega), ?_⟩
        refine k _ true _ _ F' H' h' (R1.comeback R' sf hll hb fun j d a hj q s => ?_) (s1.trans sf) ?_
        · have pa : p a := .inr ⟨j, d, hj, q, s⟩
          have n : a ≠ D0 := by
            rintro rfl
            obtain ⟨v, hv, a', rfl, f, o, z⟩ := R1.sl j _ q
            rw [s] at hv; cases hv
            exact o.ne hD
          exact ⟨hpH a pa n, hpF a pa, fun l e q' s' => hpo l e a q' s' pa⟩
        · unfold Res
          rw [if_pos rfl]
          refine ⟨D0, rfl, hpF D0 pD, ⟨acc, hacc, hal, Nat.le_trans hlen (Nat.le_trans hi hlim)⟩, h0D, fun j e q s => ?_⟩
          rw [backE_get hll] at q
          by_cases m : j ∈ vs
          · rw [if_pos m] at q
            obtain ⟨v, hv, a', rfl, f, o, z⟩ := R1.sl j _ q
            rw [s] at hv; cases hv
            exact o.ne hD
          · rw [if_neg m] at q
            refine hpo j e D0 q ?_ pD
            rw [wipe_get, if_neg fun z => m z.1]
            exact s
end

/-! ### calls: promises where no repr is under way -/
open PyProof.Rows (envOfC)
structure FnG (P : Program) (w : World) (K : PySem.W.Frag) (mg : Str → Option Value) (base : Heap) (k : Nat) (f : Addr) (fd : FuncData) (ps : List Str) (sp : Sp) : Prop where
  len : ∀ vs H Q E, sp vs H Q E → vs.length = ps.length
  run : ∀ (A : Around) (outer : List PySem.Env) (s : Shared) (H : Hp) (args : Args) (us : List Value) (vs : List V) (Q : VK) (E : XK), Room k A → A.guards = some [] → Env0 P w K mg base A outer s H → BindsTo s fd args (ps.zip us) → Vals vs us → sp vs H Q E →
    codeAny (model P w) A (.call (.ref f) args) (CR (L2.CX P w) outer P w H s Q E) s
theorem FnG.mono {P : Program} {w : World} {K : PySem.W.Frag} {mg : Str → Option Value} {base : Heap} {j k : Nat} {f : Addr} {fd : FuncData} {ps : List Str} {sp : Sp} (F : FnG P w K mg base j f fd ps sp) (h : j ≤ k) : FnG P w K mg base k f fd ps sp :=
  ⟨F.len, fun A outer s H args us vs Q E hr => F.run A outer s H args us vs Q E (hr.mono h)⟩
section
variable {P : Program} {w : World} {K : PySem.W.Frag} {mg : Str → Option Value} {base : Heap}
/-- a def by its body: as the layer's rule, the guards told -/
theorem fng_of {k : Nat} {f : Addr} {name qual : Str} {params : Arguments} {body : List Stmt} {scope : Scope} {dV kV doc pm cdv ct oc : Value} {an od : Option Addr} {osl : Array (Option Value)} {N ps : List Str} {sp : Sp}
    (lk : K.lookup f = some ⟨oc, od, .func (PySem.W.fnOf name qual params body scope dV kV doc pm an cdv ct), osl⟩) (hcd : PySem.W.codeIn K cdv qual = true) (S : FnScope N ps scope) (len : ∀ vs H Q E, sp vs H Q E → vs.length = ps.length)
    (hbody : ∀ (A : Around) (outer : List PySem.Env) (s : Shared) (H : Hp) (vs : List V) (Q : VK) (E : XK), Room k (A.deeper (envOfC qual scope s.heap.objs.size f cdv)) → A.guards = some [] → sp vs H Q E →
      ∃ t, PSs (cxOf (L2.CX P w) P w K mg base N qual scope f cdv A outer s H E) body t ∧ t { nx := fun _ H' => Q .non H', rt := Q } (L2.start N vs) H) :
    FnG P w K mg base (k + 1) f (PySem.W.fnOf name qual params body scope dV kV doc pm an cdv ct) ps sp := by
  constructor
  · exact len
  intro A outer s H args us vs Q E room gd env0 bd rv want
  have vlen := len _ _ _ _ want
  have inK : K.In s.heap := env0.mod.kin.keeps fun b o e => (env0.bs b o e).1
  have unlim : s.heap.NoLimit := env0.mod.nolimit.keeps fun b o e => (env0.bs b o e).1
  have kinds : ∀ y ∈ ps.zip us, scope.names.lookup y.1 = some .local ∨ (scope.names.lookup y.1 = some .cell ∧ ((cellsFrom (s.heap.objs.size + 1) scope.names []).lookup y.1).isSome = true) := by
    intro y hy
    rcases S.par y.1 (List.of_mem_zip (a := y.1) (b := y.2) hy).1 with loc | cel
    · exact .inl loc
    · exact .inr ⟨cel, PySem.W.cellsFrom_some _ _ _ (.inl cel)⟩
  refine codeAny_call_function room.depth (inK _ _ lk) rfl S.co S.gen rfl (PySem.W.codeRec_of inK hcd) (bd _ _ _ _ ?_)
  refine wpAny_newFunctionEnv_cells S.kind kinds ?_
  rintro env rfl s1 inc
  refine ⟨unlim.keeps inc.toInCall.keep, codeAny_func ?_⟩
  obtain ⟨t, der, rd⟩ := hbody A outer s H vs Q E (room.deeper _) gd want
  have I := inv_start (CX := L2.CX P w) (E := E) (cd := cdv) S room.hd env0 vlen rv inc
  refine wpAny_mono (der.run [] s1 (L2.start N vs) H _ I rd) ?_ fun e s' z => z
  intro fl s' z
  cases fl with
  | ret u =>
    obtain ⟨v, σ2, H2, J, rvu, q⟩ := z
    exact ⟨v, H2, J.os, J.bare, J.base, J.hok, rvu, q⟩
  | next =>
    obtain ⟨σ2, H2, J, q⟩ := z
    exact ⟨V.non, H2, J.os, J.bare, J.base, J.hok, rfl, q⟩
  | brk =>
    obtain ⟨_, _, _, q⟩ := z
    exact q.elim
  | cont =>
    obtain ⟨_, _, _, q⟩ := z
    exact q.elim
end
section
variable {X : Cx} {k : Nat} {f : Addr} {fd : FuncData} {ps : List Str} {sp : Sp} {E : XK} {x : Str} {p pos : Pos} {e : Expr} {es : List Expr} {t : TA}
theorem run_fng {pins : List (Addr × Obj)} {σ : L2.St} {H : Hp} {s : Shared} {Q : VK} {us : List Value} {vs : List V} (F : FnG X.prog X.w X.K X.mg X.base k f fd ps sp) (hr : Room k X.A) (gd : X.A.guards = some []) (hb : Binds X.K fd ps []) (hx : Passes (L2.CX X.prog X.w) X E)
    (I : Inv X pins σ H s) (r : Vals vs us) (h : sp vs H Q E) : wpAny (model X.prog X.w) X.A (call (.ref f) us) (EP X pins σ Q) X.xe s := by
  have many : (us ++ []).length = ps.length := by rw [List.append_nil, ← r.length]; exact F.len _ _ _ _ h
  have bound := hb s us I.kIn many
  rw [List.append_nil] at bound
  refine wpAny_call (codeAny_mono (F.run X.A X.stack s H ⟨us, []⟩ us vs Q E hr gd I.env0 bound r h) ?_)
  intro r' s' z
  cases r' with
  | error err => exact hx pins σ H s err s' I z
  | ok fl =>
    cases fl with
    | ret u => exact I.after z
    | next => exact z.elim
    | brk => exact z.elim
    | cont => exact z.elim
theorem pe_callG (F : FnG X.prog X.w X.K X.mg X.base k f fd ps sp) (hr : Room k X.A) (gd : X.A.guards = some []) (hg : Gl X x) (hm : X.mg x = some (.ref f)) (hk : PySem.W.keepIn X.K (.ref f) = true) (hb : Binds X.K fd ps []) (hx : Passes (L2.CX X.prog X.w) X E)
    (ha : PA X (e :: es) t) (hdb : (x == ("__debug__" : Str)) = false := by decide) (he : starEach (e :: es) X.env = (false, eval e X.env) :: starEach es X.env := by rfl) (hpl : (backTo pos (starEach es X.env)).any (·.1) = false := by rfl) :
    PE X (.Call (.Name x p) (e :: es) [] pos) (fun σ H Q => t σ H fun vs H1 => sp vs H1 Q E) := by
  constructor
  intro pins s σ H Q I h
  refine wpAny_Call_Name_kw (ld_glob I hg hm (PySem.W.callWith_K (h₀ := X.base) I.ok.mod.kin hk ?_ he hpl) hdb)
  refine thn (ha.run pos pins s σ H _ I h) ?_
  rintro us s1 ⟨vs, H1, I1, r, q⟩
  exact ⟨I1.kIn, run_fng F hr gd hb hx I1 r q⟩
theorem pe_callG0 (F : FnG X.prog X.w X.K X.mg X.base k f fd ps sp) (hr : Room k X.A) (gd : X.A.guards = some []) (hg : Gl X x) (hm : X.mg x = some (.ref f)) (hk : PySem.W.keepIn X.K (.ref f) = true) (hb : Binds X.K fd ps []) (hx : Passes (L2.CX X.prog X.w) X E)
    (hdb : (x == ("__debug__" : Str)) = false := by decide) : PE X (.Call (.Name x p) [] [] pos) (fun σ H Q => tNil σ H fun vs H1 => sp vs H1 Q E) := by
  constructor
  intro pins s σ H Q I h
  exact wpAny_Call_Name_kw (ld_glob I hg hm (PySem.W.callWith_K0 I.kIn hk (run_fng (us := []) F hr gd hb hx I .nil h)) hdb)
end

/-! ### a promise over data, as one over the heap -/
/-- arguments: fixed data, or lent objects (as: their places) -/
inductive ArgsB (K : PySem.W.Frag) (F H : Hp) : List Bool → List V → List D → List Addr → Prop
  | nil : ArgsB K F H [] [] [] []
  | da {bs : List Bool} {v : V} {vs : List V} {d : D} {ds : List D} {as : List Addr} : At K F v d → ArgsB K F H bs vs ds as → ArgsB K F H (false :: bs) (v :: vs) (d :: ds) as
  | bo {bs : List Bool} {a : Addr} {vs : List V} {d : D} {ds : List D} {as : List Addr} : F a = none → Ow K F H a d → a ∉ as → ArgsB K F H bs vs ds as → ArgsB K F H (true :: bs) (.ref a :: vs) (d :: ds) (a :: as)
def spOf (K : PySem.W.Frag) (EA : EAT) (bs : List Bool) (C : Con) : Sp := fun vs H Q E => ∃ (F : Hp) (ds : List D) (as : List Addr) (Qd : D → Bool → List D → Prop) (Ed : Exc → Prop), Sub F H ∧ ArgsB K F H bs vs ds as ∧ C ds Qd Ed ∧
  (∀ r f ls v F' H', Qd r f ls → (∀ a o, H a = some o → a ∉ as → H' a = some o) → Sub F F' → Sub F' H' → (∀ a, H a ≠ none → F' a = F a) → Paired (fun a d => Ow K F' H' a d) as ls → New K H F' H' f r v → Q v H') ∧
  ∀ x, Ed x → ∀ c d H', EA x c d H' → (∀ a o, H a = some o → a ∉ as → H' a = some o) → E c d H'
theorem ArgsB.lens {K : PySem.W.Frag} {F H : Hp} : ∀ {bs : List Bool} {vs : List V} {ds : List D} {as : List Addr}, ArgsB K F H bs vs ds as → vs.length = bs.length ∧ ds.length = bs.length
  | _, _, _, _, .nil => ⟨rfl, rfl⟩
  | _, _, _, _, .da _ t => ⟨congrArg (· + 1) t.lens.1, congrArg (· + 1) t.lens.2⟩
  | _, _, _, _, .bo _ _ _ t => ⟨congrArg (· + 1) t.lens.1, congrArg (· + 1) t.lens.2⟩
theorem ArgsB.all {K : PySem.W.Frag} {F H : Hp} : ∀ {vs : List V} {ds : List D}, AtL K F vs ds → ArgsB K F H (ds.map fun _ => false) vs ds []
  | _, _, .nil => .nil
  | _, _, .cons h t => .da h (.all t)
/-- the lent objects by slot -/
def bOf : List Bool → List V → Nat → Option Addr
  | true :: _, .ref a :: _, 0 => some a
  | _ :: bs, _ :: vs, i + 1 => bOf bs vs i
  | _, _, _ => none
section
variable {K : PySem.W.Frag} {F H : Hp}
theorem ArgsB.mem : ∀ {bs : List Bool} {vs : List V} {ds : List D} {as : List Addr} {i : Nat} {a : Addr}, ArgsB K F H bs vs ds as → bOf bs vs i = some a → a ∈ as ∧ F a = none ∧ H a ≠ none
  | _, _, _, _, _, _, .nil, e => by simp [bOf] at e
  | _, _, _, _, 0, _, .da _ _, e => by simp [bOf] at e
  | _, _, _, _, i + 1, _, .da (v := v) (bs := bs) (vs := vs) _ t, e => t.mem (i := i) (show bOf bs vs i = _ from by simpa [bOf] using e)
  | _, _, _, _, 0, _, .bo f o _ _, e => by
    simp only [bOf] at e
    cases e
    exact ⟨List.mem_cons_self, f, o.ne⟩
  | _, _, _, _, i + 1, _, .bo (bs := bs) (vs := vs) _ _ _ t, e => by
    obtain ⟨m, f, o⟩ := t.mem (i := i) (show bOf bs vs i = _ from by simpa [bOf] using e)
    exact ⟨List.mem_cons_of_mem _ m, f, o⟩
theorem ArgsB.inj : ∀ {bs : List Bool} {vs : List V} {ds : List D} {as : List Addr} {i j : Nat} {a : Addr}, ArgsB K F H bs vs ds as → bOf bs vs i = some a → bOf bs vs j = some a → i = j
  | _, _, _, _, _, _, _, .nil, e, _ => by simp [bOf] at e
  | _, _, _, _, 0, _, _, .da _ _, e, _ => by simp [bOf] at e
  | _, _, _, _, _ + 1, 0, _, .da _ _, _, e => by simp [bOf] at e
  | _, _, _, _, i + 1, j + 1, _, .da (bs := bs) (vs := vs) _ t, e, e' => congrArg (· + 1) (t.inj (i := i) (j := j) (by simpa [bOf] using e) (by simpa [bOf] using e'))
  | _, _, _, _, 0, 0, _, .bo _ _ _ _, _, _ => rfl
  | _, _, _, _, 0, j + 1, _, .bo (bs := bs) (vs := vs) f o n t, e, e' => by
    simp only [bOf] at e
    cases e
    exact absurd (t.mem (i := j) (by simpa [bOf] using e')).1 n
  | _, _, _, _, i + 1, 0, _, .bo (bs := bs) (vs := vs) f o n t, e, e' => by
    simp only [bOf] at e'
    cases e'
    exact absurd (t.mem (i := i) (by simpa [bOf] using e)).1 n
  | _, _, _, _, i + 1, j + 1, _, .bo (bs := bs) (vs := vs) f o n t, e, e' => congrArg (· + 1) (t.inj (i := i) (j := j) (by simpa [bOf] using e) (by simpa [bOf] using e'))
theorem ArgsB.has : ∀ {bs : List Bool} {vs : List V} {ds : List D} {as : List Addr} {a : Addr}, ArgsB K F H bs vs ds as → a ∈ as → ∃ i, bOf bs vs i = some a
  | _, _, _, _, _, .nil, h => by cases h
  | _, _, _, _, _, .da (bs := bs) (vs := vs) _ t, h => by
    obtain ⟨i, e⟩ := t.has h
    exact ⟨i + 1, by simpa [bOf] using e⟩
  | _, _, _, _, _, .bo (bs := bs) (vs := vs) _ _ _ t, h => by
    rcases List.mem_cons.mp h with rfl | h
    · exact ⟨0, by simp [bOf]⟩
    · obtain ⟨i, e⟩ := t.has h
      exact ⟨i + 1, by simpa [bOf] using e⟩
/-- the frame at the entry -/
theorem ArgsB.slots : ∀ {bs : List Bool} {vs : List V} {ds : List D} {as : List Addr} {m i : Nat} {e : EV}, ArgsB K F H bs vs ds as → (startE bs ds m)[i]? = some (some e) →
    ∃ v, (vs.map some ++ List.replicate m none)[i]? = some (some v) ∧ ((∃ d, e = .sh d ∧ At K F v d) ∨ ∃ d a, e = .bo d ∧ v = .ref a ∧ F a = none ∧ Ow K F H a d ∧ bOf bs vs i = some a)
  | _, _, _, _, m, i, e, .nil, h => by
    simp only [startE, List.getElem?_replicate] at h
    split at h <;> simp at h
  | _, _, _, _, m, 0, e, .da a t, h => by
    simp only [startE, List.headD_cons, Bool.false_eq_true, if_false, List.getElem?_cons_zero, Option.some.injEq] at h
    subst h
    exact ⟨_, by simp, .inl ⟨_, rfl, a⟩⟩
  | _, _, _, _, m, i + 1, e, .da (bs := bs) (vs := vs) a t, h => by
    simp only [startE, List.tail_cons, List.getElem?_cons_succ] at h
    obtain ⟨v, hv, q⟩ := t.slots h
    refine ⟨v, by simpa using hv, ?_⟩
    rcases q with q | ⟨d, a, q1, q2, q3, q4, q5⟩
    · exact .inl q
    · exact .inr ⟨d, a, q1, q2, q3, q4, by simpa [bOf] using q5⟩
  | _, _, _, _, m, 0, e, .bo f o n t, h => by
    simp only [startE, List.headD_cons, if_true, List.getElem?_cons_zero, Option.some.injEq] at h
    subst h
    exact ⟨_, by simp, .inr ⟨_, _, rfl, rfl, f, o, by simp [bOf]⟩⟩
  | _, _, _, _, m, i + 1, e, .bo (bs := bs) (vs := vs) f o n t, h => by
    simp only [startE, List.tail_cons, List.getElem?_cons_succ] at h
    obtain ⟨v, hv, q⟩ := t.slots h
    refine ⟨v, by simpa using hv, ?_⟩
    rcases q with q | ⟨d, a, q1, q2, q3, q4, q5⟩
    · exact .inl q
    · exact .inr ⟨d, a, q1, q2, q3, q4, by simpa [bOf] using q5⟩
theorem ArgsB.lentAt : ∀ {bs : List Bool} {vs : List V} {ds : List D} {as : List Addr} {m i : Nat} {a : Addr}, ArgsB K F H bs vs ds as → bOf bs vs i = some a → ∃ d, (startE bs ds m)[i]? = some (some (EV.bo d))
  | _, _, _, _, _, _, _, .nil, e => by simp [bOf] at e
  | _, _, _, _, _, 0, _, .da _ _, e => by simp [bOf] at e
  | _, _, _, _, m, i + 1, _, .da (bs := bs) (vs := vs) _ t, e => by
    obtain ⟨d, q⟩ := t.lentAt (m := m) (i := i) (by simpa [bOf] using e)
    exact ⟨d, by simpa [startE] using q⟩
  | _, _, _, _, _, 0, _, .bo (d := d) _ _ _ _, _ => ⟨d, by simp [startE]⟩
  | _, _, _, _, m, i + 1, _, .bo (bs := bs) (vs := vs) _ _ _ t, e => by
    obtain ⟨d, q⟩ := t.lentAt (m := m) (i := i) (by simpa [bOf] using e)
    exact ⟨d, by simpa [startE] using q⟩
theorem startE_length : ∀ (bs : List Bool) (ds : List D) (m : Nat), (startE bs ds m).length = ds.length + m
  | _, [], m => by simp [startE]
  | bs, d :: ds, m => by simp [startE, startE_length bs.tail ds m]; omega
/-- what the lent objects hold, in the order of the slots -/
theorem ArgsB.lentIs {F' H' : Hp} : ∀ {bs : List Bool} {vs : List V} {ds : List D} {as : List Addr} {ρ : Env}, ArgsB K F H bs vs ds as → (∀ i d, ρ[i]? = some (some (EV.bo d)) → ∃ a, bOf bs vs i = some a ∧ Ow K F' H' a d) → (∀ (i : Nat) (a : Addr), bOf bs vs i = some a → ∃ d, ρ[i]? = some (some (EV.bo d))) →
    Paired (fun a d => Ow K F' H' a d) as (lent ρ)
  | _, _, _, _, [], .nil, _, _ => .nil
  | _, _, _, _, e :: ρ, .nil, h1, h2 => by
    have e0 : lent (e :: ρ) = lent ρ := by
      unfold lent
      rw [List.filterMap_cons]
      split
      · rfl
      · rename_i b q
        split at q
        · cases q
          obtain ⟨a, z, _⟩ := h1 0 _ rfl
          simp [bOf] at z
        · cases q
    rw [e0]
    exact ArgsB.lentIs (ρ := ρ) (.nil) (fun i d q => by obtain ⟨a, z, _⟩ := h1 (i + 1) d q; simp [bOf] at z) fun i a z => by simp [bOf] at z
  | _, _, _, _, [], .da (bs := bs) (vs := vs) a t, h1, h2 => ArgsB.lentIs (ρ := []) t (fun i d q => by simp at q) fun i a z => by
    obtain ⟨d, q⟩ := h2 (i + 1) a (by simpa [bOf] using z)
    simp at q
  | _, _, _, _, e :: ρ, .da (bs := bs) (vs := vs) a t, h1, h2 => by
    have e0 : lent (e :: ρ) = lent ρ := by
      unfold lent
      rw [List.filterMap_cons]
      split
      · rfl
      · rename_i b q
        split at q
        · cases q
          obtain ⟨a, z, _⟩ := h1 0 _ rfl
          simp [bOf] at z
        · cases q
    rw [e0]
    exact ArgsB.lentIs (ρ := ρ) t (fun i d q => by obtain ⟨a, z, o⟩ := h1 (i + 1) d q; exact ⟨a, by simpa [bOf] using z, o⟩) fun i a z => by
      obtain ⟨d, q⟩ := h2 (i + 1) a (by simpa [bOf] using z)
      exact ⟨d, by simpa using q⟩
  | _, _, _, _, [], .bo (a := a) f o n t, h1, h2 => by
    obtain ⟨d, q⟩ := h2 0 a (by simp [bOf])
    simp at q
  | _, _, _, _, e :: ρ, .bo (bs := bs) (vs := vs) (a := a) f o n t, h1, h2 => by
    obtain ⟨d, q⟩ := h2 0 a (by simp [bOf])
    have q' : e = some (EV.bo d) := by simpa using q
    subst q'
    obtain ⟨a', z, w⟩ := h1 0 d rfl
    simp only [bOf] at z
    cases z
    have e0 : lent (some (EV.bo d) :: ρ) = d :: lent ρ := rfl
    rw [e0]
    refine .cons w (ArgsB.lentIs (ρ := ρ) t (fun i d q => by obtain ⟨a, z, o⟩ := h1 (i + 1) d q; exact ⟨a, by simpa [bOf] using z, o⟩) fun i a z => by
      obtain ⟨d, q⟩ := h2 (i + 1) a (by simpa [bOf] using z)
      exact ⟨d, by simpa using q⟩)
end

section
variable {P : Program} {w : World} {K : PySem.W.Frag} {mg : Str → Option Value} {base : Heap} {EA : EAT}
/-- a def keeps its promise over data, if its body's reading does -/
theorem FnG.of {x qual : Str} {st : Stmt} {f : Addr} {fd : FuncData} {N ps : List Str} {k m : Nat} {bs : List Bool} {C : Con} {wb : (Exc → Prop) → WS} (F : Fun K x qual st f fd) (S : FnScope N ps (defScope st)) (hN : N.length = bs.length + m) (hps : ps.length = bs.length) (hk : Keeps C bs m wb)
    (hd : ∀ (cdv : Value) (A : Around) (outer : List PySem.Env) (s : Shared) (H : Hp) (E : XK) (Ed : Exc → Prop), Room k (A.deeper (envOfC qual (defScope st) s.heap.objs.size f cdv)) → A.guards = some [] →
      DSs (cxOf (L2.CX P w) P w K mg base N qual (defScope st) f cdv A outer s H E) EA Ed E (defBody st) (wb Ed)) : FnG P w K mg base (k + 1) f fd ps (spOf K EA bs C) := by
  obtain ⟨oc, od, kV, doc, pm, an, cdv, ct, osl, rfl, lk, hcd⟩ := F.ex
  refine fng_of lk hcd S (fun vs H Q E h => ?_) fun A outer s H vs Q E hr gd h => ?_
  · obtain ⟨F0, ds, as, Qd, Ed, sub, args, c, _⟩ := h
    rw [hps]; exact args.lens.1
  obtain ⟨F0, ds, as, Qd, Ed, sub, args, c, post, exc⟩ := h
  obtain ⟨hl, hw⟩ := hk ds Qd Ed c
  obtain ⟨ts, der, sim⟩ := (hd cdv A outer s H E Ed hr gd).ex
  refine ⟨ts, der, ?_⟩
  have vlen := args.lens.1
  have est : L2.start N vs = vs.map some ++ List.replicate m none := by
    unfold L2.start
    rw [vlen, hN, Nat.add_sub_cancel_left]
  have frame : ∀ {H' : Hp}, (Gm.mk H F0 (bOf bs vs)).fr H' → ∀ a o, H a = some o → a ∉ as → H' a = some o := fun fr a o e n => fr a o e fun i z => n (args.mem z).1
  have R0 : Rl K (Gm.mk H F0 (bOf bs vs)) (startE bs ds m) F0 (L2.start N vs) H := by
    refine ⟨?_, sub, Sub.refl _, fun a o e _ => e, fun a o e n => n, fun i a e => ⟨(args.mem e).2.2, (args.mem e).2.2⟩, fun i j a e e' => args.inj e e', fun i a e => args.lentAt e, fun i e q => ?_, fun i j a d e q1 q2 s1 s2 => ?_⟩
    · rw [startE_length, est, List.length_append, List.length_map, List.length_replicate, vlen, hl]
    · obtain ⟨v, hv, z⟩ := args.slots q
      rw [est]
      refine ⟨v, hv, ?_⟩
      rcases z with ⟨d, rfl, z⟩ | ⟨d, a, rfl, z1, z2, z3, z4⟩
      · exact z
      · exact ⟨a, z1, z2, z3, z4⟩
    · obtain ⟨v, hv, z⟩ := args.slots q1
      rcases z with ⟨d, z, _⟩ | ⟨d, a, z, _⟩ <;> cases z
  have nw : ∀ {ρ : Env} {F' : Hp} {σ : L2.St} {H' : Hp}, Rl K (Gm.mk H F0 (bOf bs vs)) ρ F' σ H' → ∀ a, H a ≠ none → F' a = F0 a := fun {ρ F' σ H'} R a h => by
    cases e : F0 a with
    | some u => exact R.mono a u e
    | none =>
      cases z : H a with
      | none => exact absurd z h
      | some o => exact R.nw a o z e
  have ls : ∀ {ρ : Env} {F' : Hp} {σ : L2.St} {H' : Hp}, Rl K (Gm.mk H F0 (bOf bs vs)) ρ F' σ H' → Paired (fun a d => Ow K F' H' a d) as (lent ρ) := fun {ρ F' σ H'} R =>
    args.lentIs (fun i d q => by
      obtain ⟨v, hv, a, _, _, o, b⟩ := R.sl i _ q
      exact ⟨a, b, o⟩) fun i a z => R.bs i a z
  refine sim (Gm.mk H F0 (bOf bs vs)) (fun x hx c d H' ha fr => exc x hx c d H' ha (frame fr)) _ F0 _ H R0 _ _ hw ⟨fun ρ F' σ H' q R => ?_, fun d fl ρ v F' σ H' q R r => ?_, fun ρ F' σ H' q R => q.elim, fun ρ F' σ H' q R => q.elim⟩
  · exact post _ false _ .non F' H' q (frame R.fr) R.mono R.sub (nw R) (ls R) (New.at .non)
  · refine post d fl _ v F' H' q (frame R.fr) R.mono R.sub (nw R) (ls R) ⟨fun e => ?_, fun e => ?_⟩
    · subst e
      unfold Res at r
      rw [if_neg Bool.false_ne_true] at r
      exact r
    · subst e
      unfold Res at r
      rw [if_pos rfl] at r
      obtain ⟨p, e1, e2, e3, e4, _⟩ := r
      exact ⟨p, e1, e4, e2, e3⟩
end
section
variable {K : PySem.W.Frag} {EA : EAT} {E : Exc → Prop} {EH : XK} {tr : TA} {wr : WA} {C : Con}
theorem sim_call {n : Nat} (hC : ∀ ds Q E, C ds Q E → ds.length = n) (sr : SimA K EA E EH tr wr) : SimE K EA E EH (fun σ H Q => tr σ H fun vs H1 => spOf K EA (List.replicate n false) C vs H1 Q EH) (wCall C E wr) := fun G xa ρ F σ H R Qd Q h k =>
  sr G xa ρ F σ H R _ _ h fun ds ρ1 vs F1 H1 c R1 s1 a1 => by
    have e : List.replicate n false = ds.map fun _ => false := by rw [← hC _ _ _ c, List.map_const']
    rw [e]
    refine ⟨F1, ds, [], _, E, R1.sub, ArgsB.all a1, c, fun r f ls v F' H' q hh ff fh nw pw nv => ?_, fun x hx c d H' ha fr => xa x hx c d H' ha fun a o e n => fr a o (R1.fr a o e n) (List.not_mem_nil)⟩
    have g : Gr F1 H1 F' H' := ⟨fun a o e => hh a o e List.not_mem_nil, ff, fh, nw⟩
    exact k r f ρ1 v F' H' q (R1.grow g) (s1.trans ff) (nv.res R1 g)
theorem sim_callB {i n : Nat} (hC : ∀ ds Q E, C ds Q E → ds.length = n + 1) (sr : SimA K EA E EH tr wr) : SimE K EA E EH (fun σ H Q => tCons (tVar i) tr σ H fun vs H1 => spOf K EA (true :: List.replicate n false) C vs H1 Q EH) (wCallB C E i wr) := fun G xa ρ F σ H R Qd Q h k => by
  obtain ⟨h0, h⟩ := h
  obtain ⟨d0, hd0⟩ := Option.isSome_iff_exists.mp h0
  obtain ⟨o, ho, _⟩ := R.pk hd0
  refine ⟨o, ho, sr G xa ρ F σ H R _ _ h fun ds ρ1 vs F1 H1 c R1 s1 a1 => ?_⟩
  -- the same for a slot's own object and for one that was lent to it
  have go : ∀ {e : EV} {d : D} (mk : D → EV), (mk = .ow ∨ mk = .bo) → e = mk d → ρ1[i]? = some (some e) → C (d :: ds) (fun r f bs => ∃ d', bs = [d'] ∧ Qd r f (ρ1.set i (some (mk d')))) E → spOf K EA (true :: List.replicate n false) C (o :: vs) H1 Q EH := fun {e d} mk hmk he hi c => by
    have el : List.replicate n false = ds.map fun _ => false := by
      have := hC _ _ _ c
      rw [List.length_cons] at this
      rw [← Nat.add_right_cancel this, List.map_const']
    rw [el]
    obtain ⟨a, rfl, fa, ow⟩ : ∃ a, o = .ref a ∧ F1 a = none ∧ Ow K F1 H1 a d := by
      obtain ⟨v, hv, s⟩ := R1.sl i _ hi
      rw [ho] at hv; cases hv
      rcases hmk with rfl | rfl
      · subst he; obtain ⟨a, e1, e2, e3, _⟩ := s; exact ⟨a, e1, e2, e3⟩
      · subst he; obtain ⟨a, e1, e2, e3, _⟩ := s; exact ⟨a, e1, e2, e3⟩
    refine ⟨F1, d :: ds, [a], _, E, R1.sub, .bo fa ow List.not_mem_nil (ArgsB.all a1), c, fun r f ls v F' H' q hh ff fh nw pw nv => ?_, fun x hx c d H' ha fr => xa x hx c d H' ha fun b o e n => ?_⟩
    · obtain ⟨d', rfl, q⟩ := q
      cases pw with
      | cons w _ =>
        obtain ⟨u, hu⟩ : ∃ u, H' a = some u := by
          cases z : H' a with
          | none => exact absurd z w.ne
          | some u => exact ⟨u, rfl⟩
        have fa' : F' a = none := by rw [nw a ow.ne]; exact fa
        let Hm : Hp := fun b => if b = a then H1 b else H' b
        have hm : ∀ {b : Addr}, b ≠ a → Hm b = H' b := fun {b} n => if_neg n
        have hma : Hm a = H1 a := if_pos rfl
        have g : Gr F1 H1 F' Hm := by
          refine ⟨fun b o e => ?_, ff, fun b o e => ?_, nw⟩
          · by_cases n : b = a
            · subst n; rw [hma]; exact e
            · rw [hm n]; exact hh b o e (by simp [n])
          · rw [hm (ne_of_none e fa')]; exact fh b o e
        have eH : upd Hm a u = H' := by
          funext b
          by_cases n : b = a
          · subst n; rw [upd_same, hu]
          · rw [upd_ne n, hm n]
        have R2 : Rl K G (ρ1.set i (some (mk d'))) F' σ H' := by
          have := (R1.grow g).turn (e' := mk d') (o := u) hi ho (by
            rcases hmk with rfl | rfl
            · exact .inl ⟨d, d', he, rfl⟩
            · exact .inr ⟨d, d', he, rfl⟩) (by rw [eH]; rcases hmk with rfl | rfl <;> exact w)
          rw [eH] at this
          exact this
        refine k r f _ v F' H' q R2 (s1.trans ff) ?_
        unfold Res
        cases f with
        | false => rw [if_neg Bool.false_ne_true]; exact nv.1 rfl
        | true =>
          rw [if_pos rfl]
          obtain ⟨p, rfl, hn, fn, o'⟩ := nv.2 rfl
          refine ⟨p, rfl, fn, o', R1.h0 hn, fun j e q z => ?_⟩
          by_cases n : j = i
          · subst n
            rw [ho] at z; cases z
            exact ow.ne hn
          · rw [List.getElem?_set_ne (Ne.symm n)] at q
            obtain ⟨v, hv, a, rfl, _, w', _⟩ := R1.sl j _ q
            rw [hv] at z; cases z
            exact w'.ne hn
    · refine fr b o (R1.fr b o e n) ?_
      intro z
      have z' : b = a := by simpa using z
      subst z'
      obtain ⟨v, hv, s⟩ := R1.sl i _ hi
      rw [ho] at hv; cases hv
      rcases hmk with rfl | rfl
      · subst he; obtain ⟨a, e1, e2, e3, e4⟩ := s; cases e1; rw [e4] at e; cases e
      · subst he; obtain ⟨a, e1, e2, e3, e4⟩ := s; cases e1; exact n i e4
  split at c
  · rename_i d he
    exact go (d := d) .ow (.inl rfl) rfl he c
  · rename_i d he
    exact go (d := d) .bo (.inr rfl) rfl he c
  · exact c.elim
end

/-! ### operations are what they are -/
section
variable {K : PySem.W.Frag} {F H : Hp}
mutual
theorem At.dp (sub : Sub F H) : ∀ {v : V} {d : D}, At K F v d → d.plain = true → Dp K H v d
  | _, _, .non, _ => .non
  | _, _, .bl b, _ => .bl b
  | _, _, .int i, _ => .int i
  | _, _, .str x, _ => .str x
  | _, _, .scr _ _ _, p => by simp [PyData.plain, scrD] at p
  | _, _, .lst s a _, p => .lst (.inl (.inl (sub _ _ s))) (a.dp sub (by simpa [PyData.plain] using p))
  | _, _, .tup s a _, p => .tup (sub.seqT s) (a.dp sub (by simpa [PyData.plain] using p))
  | _, _, .dK _ _ _, p => by simp [PyData.plain] at p
  | _, _, .dT _ _ _, p => by simp [PyData.plain] at p
theorem AtL.dp (sub : Sub F H) : ∀ {vs : List V} {ds : List D}, AtL K F vs ds → PyData.plainAll ds = true → DpAll K H vs ds
  | _, _, .nil, _ => .nil
  | _, _, .cons a t, p => by
    simp only [PyData.plainAll, Bool.and_eq_true] at p
    exact .cons (a.dp sub p.1) (t.dp sub p.2)
end
theorem Pk.dp {v : V} {d : D} (sub : Sub F H) (p : Pk K F H v d) (h : d.plain = true) : Dp K H v d := by
  cases p with
  | «at» a => exact a.dp sub h
  | ow o f =>
    cases d with
    | list ds =>
      obtain ⟨xs, e, a, l⟩ := o
      exact .lst (.inl (.inl e)) (a.dp sub (by simpa [PyData.plain] using h))
    | dict kvs => simp [PyData.plain] at h
    | none => exact o.elim
    | bool b => exact o.elim
    | int i => exact o.elim
    | str x => exact o.elim
    | tuple xs => exact o.elim
theorem plain_noDict : ∀ (d : D), d.plain = true → d.hasDict = false := by
  intro d
  exact PyData.rec (motive_1 := fun d => d.plain = true → d.hasDict = false) (motive_2 := fun ds => PyData.plainAll ds = true → PyData.hasDictAll ds = false) (motive_3 := fun _ => True) (motive_4 := fun _ => True)
    (fun _ => rfl) (fun _ _ => rfl) (fun _ _ => rfl) (fun _ _ => rfl) (fun xs ih h => by simp only [PyData.plain] at h; simp only [PyData.hasDict]; exact ih h) (fun xs ih h => by simp only [PyData.plain] at h; simp only [PyData.hasDict]; exact ih h) (fun _ _ h => by simp [PyData.plain] at h)
    (fun _ => rfl) (fun x xs i1 i2 h => by simp only [PyData.plainAll, Bool.and_eq_true] at h; simp only [PyData.hasDictAll, i1 h.1, i2 h.2, Bool.or_self]) trivial (fun _ _ _ _ => trivial) (fun _ _ _ _ => trivial) d
theorem simv1_int {r : V → Hp → VK → Prop} {o : O1} (h : ∀ (H : Hp) (i : Int) (Qd : D → Bool → Prop) (Q : VK), o (.int i) Qd → (∀ x z, (∀ F, At K F z x) → Qd x false → Q z H) → r (.int i) H Q) (hn : ∀ d Qd, o d Qd → ∃ i, d = .int i) : SimV1 K r o := fun F H v d Qd Q sub p ho k => by
  obtain ⟨i, rfl⟩ := hn d Qd ho
  rw [p.int]
  exact h H i Qd Q ho fun x z az q => k x false z F H q (Gr.same sub) (New.at (az F))
theorem simv2_int {r : R2} {o : O2} (h : ∀ (H : Hp) (i j : Int) (Qd : D → Bool → Prop) (Q : VK), o (.int i) (.int j) Qd → (∀ x z, (∀ F, At K F z x) → Qd x false → Q z H) → r (.int i) (.int j) H Q) (hn : ∀ d e Qd, o d e Qd → ∃ i j, d = .int i ∧ e = .int j) : SimV2 K r o := fun F H v u d e Qd Q sub p q ho k => by
  obtain ⟨i, j, rfl, rfl⟩ := hn d e Qd ho
  rw [p.int, q.int]
  exact h H i j Qd Q ho fun x z az q => k x false z F H q (Gr.same sub) (New.at (az F))
theorem sv_sub : SimV2 K (rI0 fun i j => .int (i - j)) oSub := simv2_int (fun H i j Qd Q ho k => ⟨i, j, rfl, rfl, k _ _ (fun _ => .int _) ho⟩) fun d e Qd h => by
  unfold oSub at h; split at h <;> first | exact ⟨_, _, rfl, rfl⟩ | exact h.elim
theorem sv_lt : SimV2 K (rI0 fun i j => .bl (decide (i < j))) oLt := simv2_int (fun H i j Qd Q ho k => ⟨i, j, rfl, rfl, k _ _ (fun _ => .bl _) ho⟩) fun d e Qd h => by
  unfold oLt at h; split at h <;> first | exact ⟨_, _, rfl, rfl⟩ | exact h.elim
theorem sv_le : SimV2 K (rI0 fun i j => .bl (decide (i ≤ j))) oLe := simv2_int (fun H i j Qd Q ho k => ⟨i, j, rfl, rfl, k _ _ (fun _ => .bl _) ho⟩) fun d e Qd h => by
  unfold oLe at h; split at h <;> first | exact ⟨_, _, rfl, rfl⟩ | exact h.elim
theorem sv_gt : SimV2 K (rI0 fun i j => .bl (decide (j < i))) oGt := simv2_int (fun H i j Qd Q ho k => ⟨i, j, rfl, rfl, k _ _ (fun _ => .bl _) ho⟩) fun d e Qd h => by
  unfold oGt at h; split at h <;> first | exact ⟨_, _, rfl, rfl⟩ | exact h.elim
theorem sv_ge : SimV2 K (rI0 fun i j => .bl (decide (j ≤ i))) oGe := simv2_int (fun H i j Qd Q ho k => ⟨i, j, rfl, rfl, k _ _ (fun _ => .bl _) ho⟩) fun d e Qd h => by
  unfold oGe at h; split at h <;> first | exact ⟨_, _, rfl, rfl⟩ | exact h.elim
theorem sv_pow : SimV2 K (rI CPow fun i j => .int (i ^ j.toNat)) oPow := simv2_int (fun H i j Qd Q ho k => ⟨i, j, rfl, rfl, ho.1, k _ _ (fun _ => .int _) ho.2⟩) fun d e Qd h => by
  unfold oPow at h; split at h <;> first | exact ⟨_, _, rfl, rfl⟩ | exact h.elim
theorem sv_shl : SimV2 K (rI CPow fun i j => .int (i * 2 ^ j.toNat)) oShl := simv2_int (fun H i j Qd Q ho k => ⟨i, j, rfl, rfl, ho.1, k _ _ (fun _ => .int _) ho.2⟩) fun d e Qd h => by
  unfold oShl at h; split at h <;> first | exact ⟨_, _, rfl, rfl⟩ | exact h.elim
theorem sv_shr : SimV2 K (rI (fun _ j => 0 ≤ j) fun i j => .int (i / 2 ^ j.toNat)) oShr := simv2_int (fun H i j Qd Q ho k => ⟨i, j, rfl, rfl, ho.1, k _ _ (fun _ => .int _) ho.2⟩) fun d e Qd h => by
  unfold oShr at h; split at h <;> first | exact ⟨_, _, rfl, rfl⟩ | exact h.elim
theorem sv_mod : SimV2 K (rI (fun _ j => j ≠ 0) fun i j => .int (i.fmod j)) oMod := simv2_int (fun H i j Qd Q ho k => ⟨i, j, rfl, rfl, ho.1, k _ _ (fun _ => .int _) ho.2⟩) fun d e Qd h => by
  unfold oMod at h; split at h <;> first | exact ⟨_, _, rfl, rfl⟩ | exact h.elim
/-- // of any sign, a divisor below 2 ^ 9000 -/
def CDivX (_ j : Int) : Prop := j ≠ 0 ∧ j.natAbs.log2 < 9000
theorem op_fdivX {X : Cx} : OpR X (binaryOp .FloorDiv) (rI CDivX fun i j => .int (i.fdiv j)) := opI fun i j _ _ _ _ _ hc q => PyProof.Rows.floordiv_int hc.1 q (.inl (PyProof.noPylong_of_log2 hc.2))
theorem sv_fdiv : SimV2 K (rI CDivX fun i j => .int (i.fdiv j)) oFdiv := simv2_int (fun H i j Qd Q ho k => ⟨i, j, rfl, rfl, ⟨ho.1, ho.2.1⟩, k _ _ (fun _ => .int _) ho.2.2⟩) fun d e Qd h => by
  unfold oFdiv at h; split at h <;> first | exact ⟨_, _, rfl, rfl⟩ | exact h.elim
theorem sv_max2 : SimV2 K (fun x y H Q => (fun xs H Q => ∃ i j, xs = [.int i, .int j] ∧ Q (.int (if j > i then j else i)) H) [x, y] H Q) oMax2 := simv2_int (fun H i j Qd Q ho k => ⟨i, j, rfl, k _ _ (fun _ => .int _) ho⟩) fun d e Qd h => by
  unfold oMax2 at h; split at h <;> first | exact ⟨_, _, rfl, rfl⟩ | exact h.elim
theorem sv_min2 : SimV2 K (fun x y H Q => (fun xs H Q => ∃ i j, xs = [.int i, .int j] ∧ Q (.int (if j < i then j else i)) H) [x, y] H Q) oMin2 := simv2_int (fun H i j Qd Q ho k => ⟨i, j, rfl, k _ _ (fun _ => .int _) ho⟩) fun d e Qd h => by
  unfold oMin2 at h; split at h <;> first | exact ⟨_, _, rfl, rfl⟩ | exact h.elim
theorem sv_abs : SimV1 K (fun x H Q => (fun xs H Q => ∃ i, xs = [.int i] ∧ Q (.int (if i < 0 then -i else i)) H) [x] H Q) oAbs := simv1_int (fun H i Qd Q ho k => ⟨i, rfl, k _ _ (fun _ => .int _) ho⟩) fun d Qd h => by
  unfold oAbs at h; split at h <;> first | exact ⟨_, rfl⟩ | exact h.elim
theorem sv_neg : SimV1 K (rU fun i => .int (-i)) oNeg := simv1_int (fun H i Qd Q ho k => ⟨i, rfl, k _ _ (fun _ => .int _) ho⟩) fun d Qd h => by
  unfold oNeg at h; split at h <;> first | exact ⟨_, rfl⟩ | exact h.elim
theorem sv_int : SimV1 K (fun x H Q => (fun xs H Q => (∃ i, xs = [.int i] ∧ Q (.int i) H) ∨ ∃ k, xs = [.bl k] ∧ Q (.int (if k then 1 else 0)) H) [x] H Q) oInt := fun F H v d Qd Q sub p ho k => by
  unfold oInt at ho
  split at ho
  · rw [p.int]; exact .inl ⟨_, rfl, k _ false _ F H ho (Gr.same sub) (New.at (.int _))⟩
  · rw [p.bool]; exact .inr ⟨_, rfl, k _ false _ F H ho (Gr.same sub) (New.at (.int _))⟩
  · exact ho.elim
theorem mulOk.ok {i j : Int} (h : mulOk i j) : CMul i j ∨ CMulW i j := by
  rcases h with h | h | h
  · exact .inl (.inl ⟨by omega, by omega⟩)
  · exact .inl (.inr ⟨by omega, by omega⟩)
  · exact .inr h
def rMulX : R2 := fun x y H Q => rI CMul (fun i j => .int (i * j)) x y H Q ∨ rI CMulW (fun i j => .int (i * j)) x y H Q ∨ rRep x y H Q
theorem op_mulX {X : Cx} : OpR X (binaryOp .Mult) rMulX := OpR.or op_mul (OpR.or op_mulW op_rep)
theorem AtL.flat {vs : List V} {ds : List D} (a : AtL K F vs ds) : ∀ n : Nat, AtL K F (List.replicate n vs).flatten (List.replicate n ds).flatten
  | 0 => .nil
  | n + 1 => by
    rw [List.replicate_succ, List.replicate_succ, List.flatten_cons, List.flatten_cons]
    exact a.append (a.flat n)
end

section
variable {K : PySem.W.Frag} {F H : Hp}
/-- a + b of ints, texts, lists, tuples -/
def rAddX (K : PySem.W.Frag) : R2 := fun x y H Q => rI0 (fun i j => .int (i + j)) x y H Q ∨ (∃ i j, x = .str i ∧ y = .str j ∧ i.length + j.length ≤ sizeLine ∧ Q (.str (i ++ j)) H) ∨ rCat x y H Q ∨ rCatA K x y H Q
theorem op_addX {X : Cx} : OpR X (binaryOp .Add) (rAddX X.K) := OpR.or op_add (OpR.or op_add_str (OpR.or op_cat op_catA))
theorem sv_add : SimV2 K (rAddX K) oAdd := fun F H v u d e Qd Q sub p q ho k => by
  unfold oAdd at ho
  split at ho
  · rw [p.int, q.int]
    exact .inl ⟨_, _, rfl, rfl, k _ false _ F H ho (Gr.same sub) (New.at (.int _))⟩
  · rw [p.str, q.str]
    exact .inr (.inl ⟨_, _, rfl, rfl, ho.1, k _ false _ F H ho.2 (Gr.same sub) (New.at (.str _))⟩)
  · obtain ⟨a, xs, rfl, ea, la, _⟩ := p.list sub
    obtain ⟨b, ys, rfl, eb, lb, _⟩ := q.list sub
    refine .inr (.inr (.inl ⟨a, b, xs, ys, rfl, rfl, ea, eb, by rw [la.length, lb.length]; exact ho.1, fun r hr => ?_⟩))
    exact k _ true _ F _ ho.2 (Gr.own sub hr) ⟨(fun z => nomatch z), fun _ => ⟨r, rfl, hr, sub_none sub hr, xs ++ ys, upd_same, la.append lb, by rw [List.length_append]; exact ho.1⟩⟩
  · obtain ⟨ap, a, xs, rfl, ea, la, lx⟩ := p.tuple sub
    obtain ⟨aq, b, ys, rfl, eb, lb, ly⟩ := q.tuple sub
    refine .inr (.inr (.inr ⟨a, b, xs, ys, rfl, rfl, ea, eb, by rw [la.length, lb.length]; exact ho.1, fun e => ?_, fun _ e => ?_, fun _ _ r hr => ?_⟩))
    · subst e
      cases la
      exact k _ false _ F H ho.2 (Gr.same sub) (New.at aq)
    · subst e
      cases lb
      refine k _ false _ F H ho.2 (Gr.same sub) (New.at ?_)
      rw [List.append_nil]; exact ap
    · have g := Gr.new (o := .tup (xs ++ ys)) sub hr
      exact k _ false _ _ _ ho.2 g (New.at (.tup (.inl (.inl upd_same)) ((la.append lb).mono g.ff) (by rw [List.length_append]; exact ho.1)))
  · exact ho.elim
theorem sv_mul : SimV2 K rMulX oMul := fun F H v u d e Qd Q sub p q ho k => by
  unfold oMul at ho
  split at ho
  · rw [p.int, q.int]
    rcases ho.1.ok with h | h
    · exact .inl ⟨_, _, rfl, rfl, h, k _ false _ F H ho.2 (Gr.same sub) (New.at (.int _))⟩
    · exact .inr (.inl ⟨_, _, rfl, rfl, h, k _ false _ F H ho.2 (Gr.same sub) (New.at (.int _))⟩)
  · obtain ⟨a, xs, rfl, ea, la, _⟩ := p.list sub
    obtain ⟨h1, h2, h3, h4⟩ := ho
    rw [q.int]
    refine .inr (.inr ⟨a, _, xs, rfl, rfl, ea, by omega, by omega, by rw [la.length]; exact h3, fun r hr => ?_⟩)
    refine k _ true _ F _ h4 (Gr.own sub hr) ⟨(fun z => nomatch z), fun _ => ⟨r, rfl, hr, sub_none sub hr, _, upd_same, la.flat _, ?_⟩⟩
    rw [List.length_flatten, List.map_replicate, List.sum_replicate_nat, Nat.mul_comm]
    exact h3
  · exact ho.elim
def rEqP (K : PySem.W.Frag) : R2 := fun x y H Q => ∃ d e, Dp K H x d ∧ Dp K H y e ∧ tame d ∧ tame e ∧ Q (.bl (PyData.eqv d e)) H
def rNeP (K : PySem.W.Frag) : R2 := fun x y H Q => ∃ d e, Dp K H x d ∧ Dp K H y e ∧ tame d ∧ tame e ∧ Q (.bl (!PyData.eqv d e)) H
theorem tame_room {A : Around} {d e : D} (hu : A.units + 64 < cLine) (h : tame d) : A.units + min d.depth e.depth < cLine := by
  have h1 := h.2
  have h2 := Nat.min_le_left d.depth e.depth
  omega
theorem op_eqP {X : Cx} (hu : X.A.units + 64 < cLine) : OpR X (compareOp .Eq) (rEqP X.K) := fun pins s σ H x y v u Q I rx ry h => by
  obtain ⟨d, e, hd, he, sd, se, q⟩ := h
  obtain ⟨as, r1⟩ := Dp.reads I d x v hd rx
  obtain ⟨bs, r2⟩ := Dp.reads I e y u he ry
  exact SeqAt.eq_plain r1 r2 sd.1 se.1 (tame_room hu sd) ⟨.bl _, H, I, rfl, q⟩
theorem op_neP {X : Cx} (hu : X.A.units + 64 < cLine) : OpR X (compareOp .NotEq) (rNeP X.K) := fun pins s σ H x y v u Q I rx ry h => by
  obtain ⟨d, e, hd, he, sd, se, q⟩ := h
  obtain ⟨as, r1⟩ := Dp.reads I d x v hd rx
  obtain ⟨bs, r2⟩ := Dp.reads I e y u he ry
  exact SeqAt.ne_plain r1 r2 sd.1 se.1 (tame_room hu sd) ⟨.bl _, H, I, rfl, q⟩
theorem sv_eq : SimV2 K (rEqP K) oEq := fun F H v u d e Qd Q sub p q ho k => ⟨d, e, p.dp sub ho.1.1, q.dp sub ho.2.1.1, ho.1, ho.2.1, k _ false _ F H ho.2.2 (Gr.same sub) (New.at (.bl _))⟩
theorem sv_ne : SimV2 K (rNeP K) oNe := fun F H v u d e Qd Q sub p q ho k => ⟨d, e, p.dp sub ho.1.1, q.dp sub ho.2.1.1, ho.1, ho.2.1, k _ false _ F H ho.2.2 (Gr.same sub) (New.at (.bl _))⟩
/-- a list, a tuple, a text at a place -/
def rIxX (K : PySem.W.Frag) : R2 := fun x y H Q => rIxL K x y H Q ∨ rIxT K x y H Q ∨ rIxS x y H Q
theorem ix_X {X : Cx} : IxR X (rIxX X.K) := IxR.or ix_list (IxR.or ix_tup ix_str)
theorem atD_of {vs : List V} {ds : List D} {i : Int} {d : D} (a : AtL K F vs ds) (h : atD ds i = some d) : ∃ v, atI vs i = some v ∧ At K F v d := by
  unfold atD at h
  unfold atI
  rw [a.length]
  have e : ixN ds.length i = ixD ds.length i := rfl
  rw [e]
  cases z : ixD ds.length i with
  | none => rw [z] at h; cases h
  | some j =>
    rw [z] at h
    exact a.getD h
theorem sv_ix : SimV2 K (rIxX K) oIx := fun F H v u d e Qd Q sub p q ho k => by
  unfold oIx at ho
  split at ho
  · obtain ⟨a, xs, rfl, ea, la, _⟩ := p.list sub
    obtain ⟨x, hx, h⟩ := ho
    obtain ⟨w, hw, aw⟩ := atD_of la hx
    rw [q.int]
    exact .inl ⟨a, xs, _, w, rfl, rfl, .inl (.inl ea), hw, k _ false _ F H h (Gr.same sub) (New.at aw)⟩
  · obtain ⟨_, a, xs, rfl, ea, la, _⟩ := p.tuple sub
    obtain ⟨x, hx, h⟩ := ho
    obtain ⟨w, hw, aw⟩ := atD_of la hx
    rw [q.int]
    exact .inr (.inl ⟨a, xs, _, w, rfl, rfl, ea, hw, k _ false _ F H h (Gr.same sub) (New.at aw)⟩)
  · obtain ⟨hl, c, hc, h⟩ := ho
    rw [p.str, q.int]
    exact .inr (.inr ⟨_, _, c, rfl, rfl, hl, hc, k _ false _ F H h (Gr.same sub) (New.at (.str _))⟩)
  · exact ho.elim
theorem Pk.scr {v : V} {ds : List D} (sub : Sub F H) (p : Pk K F H v (.dict [(.none, .list ds)])) : ∃ a xs, v = .ref a ∧ SqL K H a xs ∧ AtL K F xs ds ∧ ds.length ≤ LIM := by
  have bad1 : ∀ {kv : List (Key × V)} {ks vs : List D}, ks = kv.map (fun p => keyD p.1) → [((.none : D), PyData.list ds)] = ks.zip vs → False := fun {kv ks vs} e z => by
    subst e
    cases kv with
    | nil => simp at z
    | cons p r =>
      cases vs with
      | nil => simp at z
      | cons w ws =>
        simp only [List.map_cons, List.zip_cons_cons] at z
        injection z with z1 _
        injection z1 with z1 _
        obtain ⟨k, _⟩ := p
        cases k <;> cases z1
  have bad2 : ∀ {kv : List (List Key × V)} {ks vs : List D}, ks = kv.map (fun p => PyData.tuple (p.1.map keyD)) → [((.none : D), PyData.list ds)] = ks.zip vs → False := fun {kv ks vs} e z => by
    subst e
    cases kv with
    | nil => simp at z
    | cons p r =>
      cases vs with
      | nil => simp at z
      | cons w ws =>
        simp only [List.map_cons, List.zip_cons_cons] at z
        injection z with z1 _
        injection z1 with z1 _
        cases z1
  cases p with
  | «at» h =>
    generalize hd : PyData.dict [(PyData.none, PyData.list ds)] = d0 at h
    cases h with
    | scr s al l =>
      unfold scrD at hd
      injection hd with hd
      injection hd with hd _
      injection hd with _ hd
      injection hd with hd
      subst hd
      exact ⟨_, _, rfl, sub.seqL s, al, l⟩
    | dK s e al =>
      injection hd with hd
      exact (bad1 e hd).elim
    | dT s e al =>
      injection hd with hd
      exact (bad2 e hd).elim
    | _ => cases hd
  | ow o f =>
    rcases o with ⟨kv, ks, vs, _, e, _, z⟩ | ⟨kv, ks, vs, _, e, _, z⟩
    · exact (bad1 e z).elim
    · exact (bad2 e z).elim
theorem sv_len : SimV1 K (fun x H Q => (fun xs H Q => ∃ x n, xs = [x] ∧ LenV K x H n ∧ Q (.int n) H) [x] H Q) oLen := fun F H v d Qd Q sub p ho k => by
  unfold oLen at ho
  split at ho
  · obtain ⟨a, xs, rfl, ea, la, _⟩ := p.list sub
    refine ⟨_, _, rfl, .inl ⟨xs, .inl (.inl ea), rfl⟩, ?_⟩
    rw [la.length]
    exact k _ false _ F H ho (Gr.same sub) (New.at (.int _))
  · obtain ⟨a, xs, rfl, ea, la, _⟩ := p.scr sub
    refine ⟨_, _, rfl, .inl ⟨xs, ea, rfl⟩, ?_⟩
    rw [la.length]
    exact k _ false _ F H ho (Gr.same sub) (New.at (.int _))
  · obtain ⟨_, a, xs, rfl, ea, la, _⟩ := p.tuple sub
    refine ⟨_, _, rfl, .inr ⟨xs, ea, rfl⟩, ?_⟩
    rw [la.length]
    exact k _ false _ F H ho (Gr.same sub) (New.at (.int _))
  · rw [p.str]
    exact ⟨_, _, rfl, ⟨ho.1, rfl⟩, k _ false _ F H ho.2 (Gr.same sub) (New.at (.int _))⟩
  · exact ho.elim
/-- str of an int, of a text -/
theorem call_strX {X : Cx} : CallR X (.type "str") (fun xs H Q => (∃ i, xs = [.int i] ∧ i.natAbs.log2 < 1920 ∧ Q (.str (toString i)) H) ∨ ∃ a, xs = [.str a] ∧ Q (.str a) H) := CallR.or call_str_int SkE.call_str_str
theorem sv_str : SimV1 K (fun x H Q => (fun xs H Q => (∃ i, xs = [.int i] ∧ i.natAbs.log2 < 1920 ∧ Q (.str (toString i)) H) ∨ ∃ a, xs = [.str a] ∧ Q (.str a) H) [x] H Q) oStr := fun F H v d Qd Q sub p ho k => by
  unfold oStr at ho
  split at ho
  · rw [p.int]; exact .inl ⟨_, rfl, ho.1, k _ false _ F H ho.2 (Gr.same sub) (New.at (.str _))⟩
  · rw [p.str]; exact .inr ⟨_, rfl, k _ false _ F H ho (Gr.same sub) (New.at (.str _))⟩
  · exact ho.elim
theorem call_reprX {X : Cx} (gd : X.A.guards = some []) (hu : X.A.units + 64 < cLine) : CallR X (.builtin "repr") (fun xs H Q => ∃ a d, xs = [.ref a] ∧ Dp X.K H (.ref a) d ∧ tame d ∧ d.showable = true ∧ d.shown.length ≤ LIM ∧ Q (.str d.shown) H) := fun pins s σ H xs us Q I r h => by
  obtain ⟨a, d, rfl, hd, ht, hs, hl, q⟩ := h
  cases r with
  | cons r1 r2 =>
    cases r2
    cases r1
    obtain ⟨as, rd⟩ := Dp.reads I d _ _ hd rfl
    have h50 := ht.2
    exact repr_of_reads' rd hs (PyData.noDict_hsm (plain_noDict d ht.1)) gd (by omega) (fun _ _ e => e) (fun h' u tk hk => ⟨.str _, H, I.kept hk, ⟨_, rfl⟩, q⟩) hl
theorem sv_repr : SimV1 K (fun x H Q => (fun xs H Q => ∃ a d, xs = [V.ref a] ∧ Dp K H (.ref a) d ∧ tame d ∧ d.showable = true ∧ d.shown.length ≤ LIM ∧ Q (.str d.shown) H) [x] H Q) oRepr := fun F H v d Qd Q sub p ho k => by
  unfold oRepr at ho
  split at ho
  · obtain ⟨⟨h1, h2, h3⟩, h⟩ := ho
    have dp := p.dp sub h1.1
    obtain ⟨a, xs, rfl, ea, la, _⟩ := p.list sub
    exact ⟨a, _, rfl, dp, h1, h2, h3, k _ false _ F H h (Gr.same sub) (New.at (.str _))⟩
  · exact ho.elim
theorem sv_fmt : SimV1 K (fun x H Q => (∃ y : Str, x = .str y ∧ y.length ≤ sizeLine ∧ Q (.str y) H) ∨ ∃ i : Int, x = .int i ∧ i.natAbs.log2 < 1920 ∧ Q (.str (toString i)) H) oFmt := fun F H v d Qd Q sub p ho k => by
  unfold oFmt at ho
  split at ho
  · rw [p.int]; exact .inr ⟨_, rfl, ho.1, k _ false _ F H ho.2 (Gr.same sub) (New.at (.str _))⟩
  · rw [p.str]; exact .inl ⟨_, rfl, ho.1, k _ false _ F H ho.2 (Gr.same sub) (New.at (.str _))⟩
  · exact ho.elim
/-- a slice -/
def rCutX (K : PySem.W.Frag) : V → Option Int → Option Int → Hp → VK → Prop := fun x lo hi H Q => rSlL K x lo hi H Q ∨ rSlA K x lo hi H Q
theorem sl_X {X : Cx} : SlR X (rCutX X.K) := SlR.or sl_list sl_tupA
theorem cutV_at {vs : List V} {ds : List D} (a : AtL K F vs ds) (lo hi : Option Int) : AtL K F (cutV vs lo hi) (cutD ds lo hi) := by
  unfold cutV cutD
  rw [a.length]
  exact (a.drop _).take _
theorem cutD_len (ds : List D) (lo hi : Option Int) : (cutD ds lo hi).length ≤ ds.length := by
  unfold cutD
  rw [List.length_take, List.length_drop]
  omega
theorem cut_whole {ds : List D} {lo hi : Option Int} (e : HT.sIx ds.length 0 lo = 0 ∧ HT.sIx ds.length ds.length hi = ds.length) : cutD ds lo hi = ds := by
  have e1 : cutIx ds.length 0 lo = 0 := e.1
  have e2 : cutIx ds.length ds.length hi = ds.length := e.2
  unfold cutD
  rw [e1, e2]
  simp
theorem sv_cut {lo hi : Option Int} : SimV1 K (fun x H Q => rCutX K x lo hi H Q) (oCut lo hi) := fun F H v d Qd Q sub p ho k => by
  have lst : ∀ {a : Addr} {xs : List V} {ds : List D}, SqL K H a xs → AtL K F xs ds → ds.length ≤ LIM → Qd (.list (cutD ds lo hi)) true → rSlL K (.ref a) lo hi H Q := fun {a xs ds} ea la ll q => by
    refine ⟨a, xs, rfl, ea, fun r hr => ?_⟩
    exact k _ true _ F _ q (Gr.own sub hr) ⟨(fun z => nomatch z), fun _ => ⟨r, rfl, hr, sub_none sub hr, _, upd_same, cutV_at la lo hi, Nat.le_trans (cutD_len _ _ _) ll⟩⟩
  unfold oCut at ho
  split at ho
  · obtain ⟨a, xs, rfl, ea, la, ll⟩ := p.list sub
    exact .inl (lst (.inl (.inl ea)) la ll ho)
  · obtain ⟨a, xs, rfl, ea, la, ll⟩ := p.scr sub
    exact .inl (lst ea la ll ho)
  · obtain ⟨ap, a, xs, rfl, ea, la, ll⟩ := p.tuple sub
    refine .inr ⟨a, xs, rfl, ea, fun e => ?_, fun _ r hr => ?_⟩
    · rw [la.length] at e
      rw [cut_whole e] at ho
      exact k _ false _ F H ho (Gr.same sub) (New.at ap)
    · have g := Gr.new (o := .tup (cutV xs lo hi)) sub hr
      exact k _ false _ _ _ ho g (New.at (.tup (.inl (.inl upd_same)) ((cutV_at la lo hi).mono g.ff) (Nat.le_trans (cutD_len _ _ _) ll)))
  · exact ho.elim
end

/-! ### the rules, by syntax -/
section
variable {X : Cx} {EA : EAT} {E : Exc → Prop} {EH : XK} {a b c e : Expr} {w wa wb wc : WE} {wt wu : WT} {pos p apos : Pos}
theorem de_v (i : Nat) {x : Str} (hN : X.N[i]? = some x := by rfl) (hv : Vis X.env.scope x := by first | exact Or.inl rfl | exact Or.inr (Or.inl rfl) | exact Or.inr (Or.inr rfl)) (hd : (x == ("__debug__" : Str)) = false := by decide) (hcd : (x == ("__classdict__" : Str)) = false := by decide) :
    DE X EA E EH (.Name x pos) (wV i) := ⟨_, pe_var hN hv hd hcd, sim_v⟩
theorem de_int {i : Int} {j : Nat} : DE X EA E EH (.Constant (.int i) j pos) (wC (.int i)) := ⟨_, pe_int, sim_c fun _ _ => .int _⟩
theorem de_bool {i : Bool} {j : Nat} : DE X EA E EH (.Constant (.bool i) j pos) (wC (.bool i)) := ⟨_, pe_bl, sim_c fun _ _ => .bl _⟩
theorem de_none {j : Nat} : DE X EA E EH (.Constant .none j pos) (wC .none) := ⟨_, pe_non, sim_c fun _ _ => .non⟩
theorem de_str {x : Str} {j : Nat} : DE X EA E EH (.Constant (.str x) j pos) (wC (.str x)) := ⟨_, pe_str, sim_c fun _ _ => .str _⟩
/-- what a name's own slot holds, looked at where the syntax stands as a name -/
structure DN (X : Cx) (e : Expr) (i : Nat) : Prop where
  ex : PE X e (tVar i)
theorem dn (i : Nat) {x : Str} (hN : X.N[i]? = some x := by rfl) (hv : Vis X.env.scope x := by first | exact Or.inl rfl | exact Or.inr (Or.inl rfl) | exact Or.inr (Or.inr rfl)) (hd : (x == ("__debug__" : Str)) = false := by decide) (hcd : (x == ("__classdict__" : Str)) = false := by decide) :
    DN X (.Name x pos) i := ⟨pe_var hN hv hd hcd⟩
/-! #### operators -/
variable {op : Operator} {r : R2} {o : O2} {i j : Nat}
theorem de_op (ho : OpR X (binaryOp op) r) (so : SimV2 X.K r o) (ha : DE X EA E EH a wa) (hb : DE X EA E EH b wb) : DE X EA E EH (.BinOp a op b pos) (wB o wa wb) := by
  obtain ⟨ta, pa, sa⟩ := ha.ex
  obtain ⟨tb, pb, sb⟩ := hb.ex
  exact ⟨_, pe_op ho pa pb, sim_b sa sb so⟩
theorem de_opL (ho : OpR X (binaryOp op) r) (so : SimV2 X.K r o) (ha : DN X a i) (hb : DE X EA E EH b wb) : DE X EA E EH (.BinOp a op b pos) (wBL o i wb) := by
  obtain ⟨tb, pb, sb⟩ := hb.ex
  exact ⟨_, pe_op ho ha.ex pb, sim_bL sb so⟩
theorem de_opR (ho : OpR X (binaryOp op) r) (so : SimV2 X.K r o) (ha : DE X EA E EH a wa) (hb : DN X b i) : DE X EA E EH (.BinOp a op b pos) (wBR o wa i) := by
  obtain ⟨ta, pa, sa⟩ := ha.ex
  exact ⟨_, pe_op ho pa hb.ex, sim_bR sa so⟩
theorem de_opB (ho : OpR X (binaryOp op) r) (so : SimV2 X.K r o) (ha : DN X a i) (hb : DN X b j) : DE X EA E EH (.BinOp a op b pos) (wBB o i j) := ⟨_, pe_op ho ha.ex hb.ex, sim_bB so⟩
variable {cop cop' : CmpOp} {r' : R2} {o' : O2}
theorem de_cmp (ho : OpR X (compareOp cop) r) (so : SimV2 X.K r o) (ha : DE X EA E EH a wa) (hb : DE X EA E EH b wb) (hm : behindInMarks cop b = false) : DE X EA E EH (.Compare a [cop] [b] pos) (wB o wa wb) := by
  obtain ⟨ta, pa, sa⟩ := ha.ex
  obtain ⟨tb, pb, sb⟩ := hb.ex
  exact ⟨_, pe_cmpR ho pa pb hm, sim_b sa sb so⟩
theorem de_cmpL (ho : OpR X (compareOp cop) r) (so : SimV2 X.K r o) (ha : DN X a i) (hb : DE X EA E EH b wb) (hm : behindInMarks cop b = false) : DE X EA E EH (.Compare a [cop] [b] pos) (wBL o i wb) := by
  obtain ⟨tb, pb, sb⟩ := hb.ex
  exact ⟨_, pe_cmpR ho ha.ex pb hm, sim_bL sb so⟩
theorem de_cmpR (ho : OpR X (compareOp cop) r) (so : SimV2 X.K r o) (ha : DE X EA E EH a wa) (hb : DN X b i) (hm : behindInMarks cop b = false) : DE X EA E EH (.Compare a [cop] [b] pos) (wBR o wa i) := by
  obtain ⟨ta, pa, sa⟩ := ha.ex
  exact ⟨_, pe_cmpR ho pa hb.ex hm, sim_bR sa so⟩
theorem de_cmpB (ho : OpR X (compareOp cop) r) (so : SimV2 X.K r o) (ha : DN X a i) (hb : DN X b j) (hm : behindInMarks cop b = false) : DE X EA E EH (.Compare a [cop] [b] pos) (wBB o i j) := ⟨_, pe_cmpR ho ha.ex hb.ex hm, sim_bB so⟩
theorem dt_cmp (ho : OpR X (compareOp cop) r) (so : SimV2 X.K r o) (ha : DE X EA E EH a wa) (hb : DE X EA E EH b wb) (hm : behindInMarks cop b = false) : DT X EA E EH (.Compare a [cop] [b] pos) (wTv (wB o wa wb)) := by
  obtain ⟨ta, pa, sa⟩ := ha.ex
  obtain ⟨tb, pb, sb⟩ := hb.ex
  exact ⟨_, pt_cmpR ho pa pb hm, sim_tv (sim_b sa sb so)⟩
theorem dt_cmpL (ho : OpR X (compareOp cop) r) (so : SimV2 X.K r o) (ha : DN X a i) (hb : DE X EA E EH b wb) (hm : behindInMarks cop b = false) : DT X EA E EH (.Compare a [cop] [b] pos) (wTv (wBL o i wb)) := by
  obtain ⟨tb, pb, sb⟩ := hb.ex
  exact ⟨_, pt_cmpR ho ha.ex pb hm, sim_tv (sim_bL sb so)⟩
theorem dt_cmpR (ho : OpR X (compareOp cop) r) (so : SimV2 X.K r o) (ha : DE X EA E EH a wa) (hb : DN X b i) (hm : behindInMarks cop b = false) : DT X EA E EH (.Compare a [cop] [b] pos) (wTv (wBR o wa i)) := by
  obtain ⟨ta, pa, sa⟩ := ha.ex
  exact ⟨_, pt_cmpR ho pa hb.ex hm, sim_tv (sim_bR sa so)⟩
theorem dt_cmpB (ho : OpR X (compareOp cop) r) (so : SimV2 X.K r o) (ha : DN X a i) (hb : DN X b j) (hm : behindInMarks cop b = false) : DT X EA E EH (.Compare a [cop] [b] pos) (wTv (wBB o i j)) := ⟨_, pt_cmpR ho ha.ex hb.ex hm, sim_tv (sim_bB so)⟩
theorem de_chain (ho : OpR X (compareOp cop) r) (so : SimV2 X.K r o) (ho' : OpR X (compareOp cop') r') (so' : SimV2 X.K r' o') (ha : DE X EA E EH a wa) (hb : DE X EA E EH b wb) (hc : DE X EA E EH c wc) (hm : lastMarks [cop, cop'] [b, c] = false := by with_unfolding_all rfl) :
    DE X EA E EH (.Compare a [cop, cop'] [b, c] pos) (wChain o o' wa wb wc) := by
  obtain ⟨ta, pa, sa⟩ := ha.ex
  obtain ⟨tb, pb, sb⟩ := hb.ex
  obtain ⟨tc, pc, sc⟩ := hc.ex
  exact ⟨_, pe_chain ho ho' pa pb pc hm, sim_chain sa sb sc so so'⟩
theorem dt_chain (ho : OpR X (compareOp cop) r) (so : SimV2 X.K r o) (ho' : OpR X (compareOp cop') r') (so' : SimV2 X.K r' o') (ha : DE X EA E EH a wa) (hb : DE X EA E EH b wb) (hc : DE X EA E EH c wc) (hm : lastMarks [cop, cop'] [b, c] = false := by with_unfolding_all rfl) :
    DT X EA E EH (.Compare a [cop, cop'] [b, c] pos) (wTv (wChain o o' wa wb wc)) := by
  obtain ⟨ta, pa, sa⟩ := ha.ex
  obtain ⟨tb, pb, sb⟩ := hb.ex
  obtain ⟨tc, pc, sc⟩ := hc.ex
  exact ⟨_, pt_chain ho ho' pa pb pc hm, sim_tv (sim_chain sa sb sc so so')⟩
variable {uop : UnaryOp} {ru : V → Hp → VK → Prop} {ou : O1}
theorem de_un (ho : UnR X (unaryOp uop) ru) (so : SimV1 X.K ru ou) (ha : DE X EA E EH a wa) : DE X EA E EH (.UnaryOp uop a pos) (wO ou wa) := by
  obtain ⟨ta, pa, sa⟩ := ha.ex
  exact ⟨_, pe_un ho pa, sim_o (ta := ta) (r := ru) sa so⟩
theorem de_ix (ha : DE X EA E EH a wa) (hb : DE X EA E EH b wb) (hs : PlainIx b := by exact fun _ _ => rfl) : DE X EA E EH (.Subscript a b pos) (wB oIx wa wb) := by
  obtain ⟨ta, pa, sa⟩ := ha.ex
  obtain ⟨tb, pb, sb⟩ := hb.ex
  exact ⟨_, pe_ix ix_X pa pb hs, sim_b sa sb sv_ix⟩
theorem de_ixN (ha : DN X a i) (hb : DE X EA E EH b wb) (hs : PlainIx b := by exact fun _ _ => rfl) : DE X EA E EH (.Subscript a b pos) (wBL oIx i wb) := by
  obtain ⟨tb, pb, sb⟩ := hb.ex
  exact ⟨_, pe_ix ix_X ha.ex pb hs, sim_bL sb sv_ix⟩
/-! #### argument lists, displays, built-ins -/
variable {es : List Expr} {wr : WA}
theorem da_nil : DA X EA E EH [] wNil := ⟨_, pa_nil, sim_nil⟩
theorem da_cons (ha : DE X EA E EH e w) (hr : DA X EA E EH es wr) (hs : starEach (e :: es) X.env = (false, eval e X.env) :: starEach es X.env := by rfl) : DA X EA E EH (e :: es) (wCons w wr) := by
  obtain ⟨ta, pa, sa⟩ := ha.ex
  obtain ⟨tr, pr, sr⟩ := hr.ex
  exact ⟨_, pa_cons pa pr hs, sim_cons sa sr⟩
theorem de_tup {k : Nat} (h : DA X EA E EH es wr) : DE X EA E EH (.Tuple es k pos) (wTup wr) := by
  obtain ⟨tr, pr, sr⟩ := h.ex
  exact ⟨_, pe_tup pr, sim_tup sr⟩
theorem de_lst (h : DA X EA E EH es wr) : DE X EA E EH (.List es pos) (wLst wr) := by
  obtain ⟨tr, pr, sr⟩ := h.ex
  exact ⟨_, pe_lst pr, sim_lst sr⟩
variable {x : Str} {id T : String} {rc : List V → Hp → VK → Prop} {oa : OA}
/-- f(a), f a built-in, by its one value -/
theorem de_b1 (hc : CallR X (.builtin id) rc) (so : SimV1 X.K (fun x H Q => rc [x] H Q) ou) (hg : Gl X x) (hm : X.mg x = none) (hv : bootBuiltins x = some (.builtin id)) (ha : DE X EA E EH a wa) (hn : x ≠ "__name__" := by decide) (hdb : (x == ("__debug__" : Str)) = false := by decide)
    (he : starEach [a] X.env = (false, eval a X.env) :: starEach [] X.env := by rfl) : DE X EA E EH (.Call (.Name x p) [a] [] pos) (wO ou wa) := by
  obtain ⟨ta, pa, sa⟩ := ha.ex
  exact ⟨_, pe_callB hc hg hm hv (pa_cons pa pa_nil he) hn hdb he rfl, sim_o (ta := ta) (r := fun x H Q => rc [x] H Q) sa so⟩
theorem de_b1N (hc : CallR X (.builtin id) rc) (so : SimV1 X.K (fun x H Q => rc [x] H Q) ou) (hg : Gl X x) (hm : X.mg x = none) (hv : bootBuiltins x = some (.builtin id)) (ha : DN X a i) (hn : x ≠ "__name__" := by decide) (hdb : (x == ("__debug__" : Str)) = false := by decide)
    (he : starEach [a] X.env = (false, eval a X.env) :: starEach [] X.env := by rfl) : DE X EA E EH (.Call (.Name x p) [a] [] pos) (wOP ou i) :=
  ⟨_, pe_callB hc hg hm hv (pa_cons ha.ex pa_nil he) hn hdb he rfl, sim_oP so⟩
theorem de_t1 (hc : CallR X (.type T) rc) (so : SimV1 X.K (fun x H Q => rc [x] H Q) ou) (hg : Gl X x) (hm : X.mg x = none) (hv : bootBuiltins x = some (.type T)) (ha : DE X EA E EH a wa) (hn : x ≠ "__name__" := by decide) (hdb : (x == ("__debug__" : Str)) = false := by decide)
    (he : starEach [a] X.env = (false, eval a X.env) :: starEach [] X.env := by rfl) : DE X EA E EH (.Call (.Name x p) [a] [] pos) (wO ou wa) := by
  obtain ⟨ta, pa, sa⟩ := ha.ex
  exact ⟨_, pe_callTy hc hg hm hv (pa_cons pa pa_nil he) hn hdb he rfl, sim_o (ta := ta) (r := fun x H Q => rc [x] H Q) sa so⟩
theorem de_t1N (hc : CallR X (.type T) rc) (so : SimV1 X.K (fun x H Q => rc [x] H Q) ou) (hg : Gl X x) (hm : X.mg x = none) (hv : bootBuiltins x = some (.type T)) (ha : DN X a i) (hn : x ≠ "__name__" := by decide) (hdb : (x == ("__debug__" : Str)) = false := by decide)
    (he : starEach [a] X.env = (false, eval a X.env) :: starEach [] X.env := by rfl) : DE X EA E EH (.Call (.Name x p) [a] [] pos) (wOP ou i) :=
  ⟨_, pe_callTy hc hg hm hv (pa_cons ha.ex pa_nil he) hn hdb he rfl, sim_oP so⟩
theorem de_b2 (hc : CallR X (.builtin id) rc) (so : SimV2 X.K (fun x y H Q => rc [x, y] H Q) o) (hg : Gl X x) (hm : X.mg x = none) (hv : bootBuiltins x = some (.builtin id)) (ha : DE X EA E EH a wa) (hb : DE X EA E EH b wb) (hn : x ≠ "__name__" := by decide) (hdb : (x == ("__debug__" : Str)) = false := by decide)
    (he : starEach [a, b] X.env = (false, eval a X.env) :: starEach [b] X.env := by rfl) (he2 : starEach [b] X.env = (false, eval b X.env) :: starEach [] X.env := by rfl) (hpl : (backTo pos (starEach [b] X.env)).any (·.1) = false := by rfl) : DE X EA E EH (.Call (.Name x p) [a, b] [] pos) (wB o wa wb) := by
  obtain ⟨ta, pa, sa⟩ := ha.ex
  obtain ⟨tb, pb, sb⟩ := hb.ex
  exact ⟨_, pe_callB hc hg hm hv (pa_cons pa (pa_cons pb pa_nil he2) he) hn hdb he hpl, sim_b sa sb so⟩
/-! #### calls of defs -/
variable {k n : Nat} {f : Addr} {fd : FuncData} {ps : List Str} {C : Con}
theorem de_call (hC : ∀ ds Q E, C ds Q E → ds.length = n) (F : FnG X.prog X.w X.K X.mg X.base k f fd ps (spOf X.K EA (List.replicate n false) C)) (hr : Room k X.A) (gd : X.A.guards = some []) (hg : Gl X x) (hm : X.mg x = some (.ref f)) (hk : PySem.W.keepIn X.K (.ref f) = true) (hb : Binds X.K fd ps []) (hx : Passes (L2.CX X.prog X.w) X EH)
    (ha : DA X EA E EH (e :: es) wr) (hdb : (x == ("__debug__" : Str)) = false := by decide) (he : starEach (e :: es) X.env = (false, eval e X.env) :: starEach es X.env := by rfl) (hpl : (backTo pos (starEach es X.env)).any (·.1) = false := by rfl) :
    DE X EA E EH (.Call (.Name x p) (e :: es) [] pos) (wCall C E wr) := by
  obtain ⟨tr, pr, sr⟩ := ha.ex
  exact ⟨_, pe_callG F hr gd hg hm hk hb hx pr hdb he hpl, sim_call hC sr⟩
theorem de_callB (hC : ∀ ds Q E, C ds Q E → ds.length = n + 1) (F : FnG X.prog X.w X.K X.mg X.base k f fd ps (spOf X.K EA (true :: List.replicate n false) C)) (hr : Room k X.A) (gd : X.A.guards = some []) (hg : Gl X x) (hm : X.mg x = some (.ref f)) (hk : PySem.W.keepIn X.K (.ref f) = true) (hb : Binds X.K fd ps []) (hx : Passes (L2.CX X.prog X.w) X EH)
    (ha : DN X e i) (hr' : DA X EA E EH es wr) (hdb : (x == ("__debug__" : Str)) = false := by decide) (he : starEach (e :: es) X.env = (false, eval e X.env) :: starEach es X.env := by rfl) (hpl : (backTo pos (starEach es X.env)).any (·.1) = false := by rfl) :
    DE X EA E EH (.Call (.Name x p) (e :: es) [] pos) (wCallB C E i wr) := by
  obtain ⟨tr, pr, sr⟩ := hr'.ex
  exact ⟨_, pe_callG F hr gd hg hm hk hb hx (pa_cons ha.ex pr he) hdb he hpl, sim_callB hC sr⟩
/-! #### and, or, not, if -/
theorem dt_v (h : DE X EA E EH e w) (he : ∀ whole, isTrue e X.env whole = (do let v ← whole; standAt e.pos; holding [v] (truthy v)) := by intro _; rfl) : DT X EA E EH e (wTv w) := by
  obtain ⟨te, pe, se⟩ := h.ex
  exact ⟨_, pt_val pe he, sim_tv se⟩
theorem dt_w (h : DW X EA E EH e wt) : DT X EA E EH e wt := by
  obtain ⟨tt, pt, st⟩ := h.ex
  exact ⟨_, pt.pt, st⟩
theorem dw_and1 (h : DT X EA E EH a wt) : DW X EA E EH (.BoolOp .And [a] pos) wt := by
  obtain ⟨tt, pt, st⟩ := h.ex
  exact ⟨_, pw_and1 pt, st⟩
theorem dw_and {rest : List Expr} (h : DT X EA E EH a wt) (hr : DW X EA E EH (.BoolOp .And (b :: rest) pos) wu) : DW X EA E EH (.BoolOp .And (a :: b :: rest) pos) (wAnd wt wu) := by
  obtain ⟨tt, pt, st⟩ := h.ex
  obtain ⟨tu, pu, su⟩ := hr.ex
  exact ⟨_, pw_and pt pu, sim_and st su⟩
theorem dw_or1 (h : DT X EA E EH a wt) : DW X EA E EH (.BoolOp .Or [a] pos) wt := by
  obtain ⟨tt, pt, st⟩ := h.ex
  exact ⟨_, pw_or1 pt, st⟩
theorem dw_or {rest : List Expr} (h : DT X EA E EH a wt) (hr : DW X EA E EH (.BoolOp .Or (b :: rest) pos) wu) : DW X EA E EH (.BoolOp .Or (a :: b :: rest) pos) (wOr wt wu) := by
  obtain ⟨tt, pt, st⟩ := h.ex
  obtain ⟨tu, pu, su⟩ := hr.ex
  exact ⟨_, pw_or pt pu, sim_or st su⟩
theorem dt_not (h : DT X EA E EH a wt) : DT X EA E EH (.UnaryOp .Not a pos) (wNot wt) := by
  obtain ⟨tt, pt, st⟩ := h.ex
  exact ⟨_, pt_not pt, sim_not st⟩
theorem de_one {bop : BoolOp} (h : DE X EA E EH a wa) : DE X EA E EH (.BoolOp bop [a] pos) wa := by
  obtain ⟨ta, pa, sa⟩ := h.ex
  exact ⟨_, pe_one pa, sa⟩
theorem de_and {rest : List Expr} (ha : DE X EA E EH a wa) (hb : DE X EA E EH (.BoolOp .And (b :: rest) pos) wb) : DE X EA E EH (.BoolOp .And (a :: b :: rest) pos) (wAndV wa wb) := by
  obtain ⟨ta, pa, sa⟩ := ha.ex
  obtain ⟨tb, pb, sb⟩ := hb.ex
  exact ⟨_, pe_and pa pb, sim_andV sa sb⟩
theorem de_or {rest : List Expr} (ha : DE X EA E EH a wa) (hb : DE X EA E EH (.BoolOp .Or (b :: rest) pos) wb) : DE X EA E EH (.BoolOp .Or (a :: b :: rest) pos) (wOrV wa wb) := by
  obtain ⟨ta, pa, sa⟩ := ha.ex
  obtain ⟨tb, pb, sb⟩ := hb.ex
  exact ⟨_, pe_or pa pb, sim_orV sa sb⟩
theorem de_not (ha : DE X EA E EH a wa) : DE X EA E EH (.UnaryOp .Not a pos) (wNotV wa) := by
  obtain ⟨ta, pa, sa⟩ := ha.ex
  exact ⟨_, pe_not pa, sim_notV sa⟩
theorem de_if (hc : DT X EA E EH c wt) (ha : DE X EA E EH a wa) (hb : DE X EA E EH b wb) : DE X EA E EH (.IfExp c a b pos) (wIf wt wa wb) := by
  obtain ⟨tt, pt, st⟩ := hc.ex
  obtain ⟨ta, pa, sa⟩ := ha.ex
  obtain ⟨tb, pb, sb⟩ := hb.ex
  exact ⟨_, pe_ifExp pt pa pb, sim_if st sa sb⟩
/-! #### slices, f-strings -/
def SimP (K : PySem.W.Frag) (EA : EAT) (E : Exc → Prop) (EH : XK) (tp : TO) (w : WP) : Prop := ∀ (G : Gm), XA EA E EH G → ∀ (ρ : Env) (F : Hp) (σ : L2.St) (H : Hp), Rl K G ρ F σ H → ∀ (Qd : Option Int → Env → Prop) (Q : Option Int → Hp → Prop), w ρ Qd →
  (∀ i ρ' F' H', Qd i ρ' → Rl K G ρ' F' σ H' → Sub F F' → Q i H') → tp σ H Q
structure DP (X : Cx) (EA : EAT) (E : Exc → Prop) (EH : XK) (e : Option Expr) (w : WP) : Prop where
  ex : ∃ t, PO X e t ∧ SimP X.K EA E EH t w
theorem dp_none : DP X EA E EH none pN := ⟨_, po_none, fun G xa ρ F σ H R Qd Q h k => k none ρ F H h R (Sub.refl _)⟩
theorem dp_some (h : DE X EA E EH e w) : DP X EA E EH (some e) (pS w) := by
  obtain ⟨te, pe, se⟩ := h.ex
  refine ⟨_, po_some pe, fun G xa ρ F σ H R Qd Q h k => se.run xa R (Qd := fun d ρ1 => ∃ i, d = .int i ∧ Qd (some i) ρ1) h fun d ρ1 v F1 H1 h1 R1 s1 a1 => ?_⟩
  obtain ⟨i, rfl, q⟩ := h1
  cases a1
  exact ⟨i, rfl, k _ ρ1 F1 H1 q R1 s1⟩
theorem de_slice {lo hi : Option Expr} {wl wh : WP} {p2 : Pos} (ha : DE X EA E EH a wa) (hl : DP X EA E EH lo wl) (hh : DP X EA E EH hi wh) : DE X EA E EH (.Subscript a (.Slice lo hi none p2) pos) (wSl wa wl wh) := by
  obtain ⟨ta, pa, sa⟩ := ha.ex
  obtain ⟨tl, pl, sl⟩ := hl.ex
  obtain ⟨th, ph, sh⟩ := hh.ex
  refine ⟨_, pe_slice sl_X pa pl ph, fun G xa ρ F σ H R Qd Q h k => ?_⟩
  refine sa.run xa R (Qd := fun d ρ1 => wl ρ1 fun l ρ2 => wh ρ2 fun h ρ3 => oCut l h d fun r f => Qd r f ρ3) h fun d ρ1 v F1 H1 h1 R1 s1 a1 => ?_
  refine sl G xa ρ1 F1 σ H1 R1 _ _ h1 fun l ρ2 F2 H2 h2 R2 s2 => ?_
  refine sh G xa ρ2 F2 σ H2 R2 _ _ h2 fun u ρ3 F3 H3 h3 R3 s3 => ?_
  exact sv_cut F3 H3 v d _ Q R3.sub (.at ((a1.mono s2).mono s3)) h3 fun x f z F4 H4 q g n => k x f ρ3 z F4 H4 q (R3.grow g) (((s1.trans s2).trans s3).trans g.ff) (n.res R3 g)
/-- the parts of an f-string -/
structure DJ (X : Cx) (EA : EAT) (E : Exc → Prop) (EH : XK) (es : List Expr) (ws : List WE) : Prop where
  ex : ∃ ts, PJ X es ts ∧ ∀ (G : Gm), XA EA E EH G → ∀ (ρ : Env) (F : Hp) (σ : L2.St) (H : Hp), Rl X.K G ρ F σ H → ∀ (acc : Str) (Qd : Str → Env → Prop) (Q : Str → Hp → Prop), fsGo ws acc ρ Qd →
    (∀ z ρ' F' H', Qd z ρ' → Rl X.K G ρ' F' σ H' → Sub F F' → Q z H') → tJs ts acc σ H Q
theorem dj_nil : DJ X EA E EH [] [] := ⟨[], .nil, fun G xa ρ F σ H R acc Qd Q h k => k acc ρ F H h R (Sub.refl _)⟩
theorem dj_cons {ws : List WE} (h : DE X EA E EH e w) (hr : DJ X EA E EH es ws) : DJ X EA E EH (e :: es) (w :: ws) := by
  obtain ⟨te, pe, se⟩ := h.ex
  obtain ⟨ts, pj, sj⟩ := hr.ex
  refine ⟨te :: ts, .cons pe pj, fun G xa ρ F σ H R acc Qd Q h k => ?_⟩
  refine se.run xa R (Qd := fun d ρ1 => ∃ y : Str, d = .str y ∧ (acc ++ y).length ≤ LIM ∧ fsGo ws (acc ++ y) ρ1 Qd) h fun d ρ1 v F1 H1 h1 R1 s1 a1 => ?_
  obtain ⟨y, rfl, hl, q⟩ := h1
  cases a1
  exact ⟨y, rfl, hl, sj G xa ρ1 F1 σ H1 R1 (acc ++ y) Qd Q q fun z ρ2 F2 H2 q R2 s2 => k z ρ2 F2 H2 q R2 (s1.trans s2)⟩
theorem de_fs {v1 v2 : Expr} {rest : List Expr} {ws : List WE} (h : DJ X EA E EH (v1 :: v2 :: rest) ws) : DE X EA E EH (.JoinedStr (v1 :: v2 :: rest) pos) (wFs ws) := by
  obtain ⟨ts, pj, sj⟩ := h.ex
  exact ⟨_, pe_joined pj, fun G xa ρ F σ H R Qd Q h k => sj G xa ρ F σ H R Str.empty _ _ h fun z ρ1 F1 H1 q R1 s1 => k _ false ρ1 _ F1 H1 q R1 s1 (Res.at (.str _))⟩
theorem de_fs1 (h : DE X EA E EH e w) : DE X EA E EH (.JoinedStr [e] pos) w := by
  obtain ⟨te, pe, se⟩ := h.ex
  exact ⟨_, pe_joined1 pe, se⟩
theorem de_fmt (h : DE X EA E EH e w) : DE X EA E EH (.FormattedValue e (-1) none pos) (wO oFmt w) := by
  obtain ⟨te, pe, se⟩ := h.ex
  exact ⟨_, pe_fmt pe, sim_o (ta := te) (r := fun x H Q => (∃ y : Str, x = .str y ∧ y.length ≤ sizeLine ∧ Q (.str y) H) ∨ ∃ i : Int, x = .int i ∧ i.natAbs.log2 < 1920 ∧ Q (.str (toString i)) H) se sv_fmt⟩
/-! #### what is walked -/
variable {tg : Expr}
theorem di_seq (h : DE X EA E EH e w) : DI X EA E EH tg e (itS w) := by
  obtain ⟨te, pe, se⟩ := h.ex
  refine ⟨_, ⟨fun pins s σ H R I h => ?_⟩, sim_itS se⟩
  refine thn (pe.run pins s σ H _ I h) fun v s1 ⟨x, H1, I1, r1, q1⟩ => ?_
  obtain ⟨a, rfl, q1⟩ := q1
  -- one of the layer's two walks, over the value that has come
  have lst : (∃ xs, SqL X.K H1 a xs) ∧ R (Itl X.K a) H1 → wpAny (model X.prog X.w) X.A (pyIter v) (PIE X pins σ tg R) X.xe s1 := fun q => by
    obtain ⟨⟨xs, hq⟩, q⟩ := q
    cases r1
    obtain ⟨its, rv, pl, hz⟩ := I1.list hq
    refine wpAny_pyIter_list pl.isList ?_
    refine ⟨s1.heap.objs.size, [s1.heap.objs.size], _, _, H1, rfl, I1.kept (t' := s1.toks) fun b o z => Heap.get?_push_of_some _ z, turn_list a _, ⟨_, Heap.get?_push_size _ rfl, rfl, rfl⟩, fun b hb => ?_, q⟩
    rw [List.mem_singleton.mp hb]
    exact I1.fpOk (Nat.le_refl _) (I1.hok.fresh (Nat.le_refl _))
  have tup : (∃ xs, SqT X.K H1 a xs) ∧ R (Itt X.K a) H1 → wpAny (model X.prog X.w) X.A (pyIter v) (PIE X pins σ tg R) X.xe s1 := fun q => by
    obtain ⟨⟨xs, hq⟩, q⟩ := q
    cases r1
    obtain ⟨its, rv, pl, hz⟩ := I1.tuple hq
    refine wpAny_pyIter_tuple (show s1.heap.IsTuple a its.toArray from pl) ?_
    refine ⟨s1.heap.objs.size, [s1.heap.objs.size], _, _, H1, rfl, I1.kept (t' := s1.toks) fun b o z => Heap.get?_push_of_some _ z, turn_tuple a _, ⟨_, Heap.get?_push_size _ rfl, rfl, rfl⟩, fun b hb => ?_, q⟩
    rw [List.mem_singleton.mp hb]
    exact I1.fpOk (Nat.le_refl _) (I1.hok.fresh (Nat.le_refl _))
  exact q1.elim lst tup
theorem di_r1 (hg : Gl X "range") (hm : X.mg "range" = none) (h : DE X EA E EH a wa) (hs : starEach [a] X.env = [(false, eval a X.env)] := by rfl) : DI X EA E EH tg (.Call (.Name "range" p) [a] [] pos) (itR1 wa) := by
  obtain ⟨ta, pa, sa⟩ := h.ex
  exact ⟨_, pi_range1 hg hm (pa_cons pa pa_nil hs) hs, sim_itR1 sa⟩
theorem di_r2 (hg : Gl X "range") (hm : X.mg "range" = none) (ha : DE X EA E EH a wa) (hb : DE X EA E EH b wb) (hs : starEach [a, b] X.env = [(false, eval a X.env), (false, eval b X.env)] := by rfl) (hs2 : starEach [b] X.env = [(false, eval b X.env)] := by rfl) :
    DI X EA E EH tg (.Call (.Name "range" p) [a, b] [] pos) (itR2 wa wb) := by
  obtain ⟨ta, pa, sa⟩ := ha.ex
  obtain ⟨tb, pb, sb⟩ := hb.ex
  exact ⟨_, pi_range2 hg hm (pa_cons pa (pa_cons pb pa_nil hs2) (by rw [hs, hs2])) hs hs2, sim_itR2 sa sb⟩
end

section
variable {X : Cx} {EA : EAT} {E : Exc → Prop} {EH : XK} {a b c e : Expr} {w wa wb wc : WE} {wt wu : WT} {ws wz : WS} {wg : WG} {wgs : WGs} {pos p apos : Pos} {st : Stmt} {sts body : List Stmt} {tg : Expr} {i j : Nat}
/-! #### targets -/
theorem dg_name (i : Nat) {x : Str} (hN : X.N.Nodup) (hi : X.N[i]? = some x := by rfl) (hx : Loc X.env.scope x := by first | exact Or.inl rfl | exact Or.inr rfl) (hf : X.fn x = true ∨ X.env.scope.names.lookup x = some .local := by first | exact .inl rfl | exact .inr rfl) : DG X EA E EH (.Name x pos) (gN i) :=
  ⟨_, pg_name hN hi hx hf, sim_gN⟩
theorem dgs_nil : DGs X EA E EH [] gNil := ⟨_, pgs_nil, sim_gNil⟩
theorem dgs_cons {es : List Expr} (h : DG X EA E EH e wg) (hr : DGs X EA E EH es wgs) (hs : (assignEach (e :: es) X.env).map (·.2) = assign e X.env :: (assignEach es X.env).map (·.2) := by rfl) : DGs X EA E EH (e :: es) (gCons wg wgs) := by
  obtain ⟨t, p, s⟩ := h.ex
  obtain ⟨t2, p2, s2⟩ := hr.ex
  exact ⟨_, pgs_cons p p2 hs, sim_gCons s s2⟩
theorem dg_tup {es : List Expr} {k n : Nat} (hc : X.calm = true) (h : DGs X EA E EH es wgs) (hn : (assignEach es X.env).length = n := by rfl) (hst : (assignEach es X.env).findIdx? (·.1) = none := by rfl) : DG X EA E EH (.Tuple es k pos) (gTup n wgs) := by
  obtain ⟨t, p, s⟩ := h.ex
  exact ⟨_, pg_tup hc p hn hst, sim_gTup s⟩
theorem dg_ix (ho : DN X a i) (h : DE X EA E EH b wb) (hq : ∀ v, assign (.Subscript a b pos) X.env v = (do
      let ov ← holding [v] (eval a X.env)
      let iv ← holding [v, ov] (eval b X.env)
      standAt pos
      holding [v, ov, iv] (setItem ov iv v)
      release [v, ov, iv] []) := by intro _; rfl) : DG X EA E EH (.Subscript a b pos) (gIx i wb) := by
  obtain ⟨tb, pb, sb⟩ := h.ex
  exact ⟨_, pg_sub ho.ex pb set_list hq, sim_gIx sb⟩
/-! #### statements -/
theorem dss_nil : DSs X EA E EH [] wNext := ⟨_, pss_nil, sim_next⟩
theorem dss_cons (h : DS X EA E EH st ws) (hr : DSs X EA E EH sts wz) : DSs X EA E EH (st :: sts) (wSeq ws wz) := by
  obtain ⟨t, p, s⟩ := h.ex
  obtain ⟨t2, p2, s2⟩ := hr.ex
  exact ⟨_, pss_cons p p2, sim_seq s s2⟩
theorem dss_one (h : DS X EA E EH st ws) : DSs X EA E EH [st] ws := by
  obtain ⟨t, p, s⟩ := h.ex
  exact ⟨_, pss_one p, s⟩
theorem ds_pass : DS X EA E EH (.Pass pos) wNext := ⟨_, ps_pass, sim_next⟩
theorem ds_break : DS X EA E EH (.Break pos) wBreak := ⟨_, ps_break, sim_break⟩
theorem ds_cont : DS X EA E EH (.Continue pos) wCont := ⟨_, ps_continue, sim_cont⟩
theorem ds_never : DS X EA E EH st wNever := ⟨_, ps_never, sim_never⟩
theorem ds_expr (h : DE X EA E EH e w) (hs : swapsWith e none pos.line X.env = pure false := by rfl) : DS X EA E EH (.Expr e pos) (wDrop w) := by
  obtain ⟨t, p, s⟩ := h.ex
  exact ⟨_, ps_expr p hs, sim_drop s⟩
theorem ds_ret (h : DE X EA E EH e w) : DS X EA E EH (.Return (some e) pos) (wRet w) := by
  obtain ⟨t, p, s⟩ := h.ex
  exact ⟨_, ps_ret p, sim_ret s⟩
theorem ds_retV (h : DN X e i) : DS X EA E EH (.Return (some e) pos) (wRetV i) := ⟨_, ps_ret h.ex, sim_retV⟩
theorem ds_retN : DS X EA E EH (.Return none pos) wRetN := ⟨_, ps_retN, sim_retN⟩
theorem ds_if {c : Expr} {s1 s2 : List Stmt} (hc : DT X EA E EH c wt) (ha : DSs X EA E EH s1 ws) (hb : DSs X EA E EH s2 wz) : DS X EA E EH (.If c s1 s2 pos) (wIfS wt ws wz) := by
  obtain ⟨t, p, s⟩ := hc.ex
  obtain ⟨ta, pa, sa⟩ := ha.ex
  obtain ⟨tb, pb, sb⟩ := hb.ex
  exact ⟨_, ps_if p pa pb, sim_ifS s sa sb⟩
theorem ds_asg (he : DE X EA E EH e w) (hg : DG X EA E EH tg wg) (hs : swapsWithSole [tg] e pos.line X.env = pure false := by rfl) (hw : swappedStores [tg] e X.env = pure none := by rfl) (h1 : (assignEach [tg] X.env).map (·.2) = [assign tg X.env] := by rfl) : DS X EA E EH (.Assign [tg] e pos) (wAsg w wg) := by
  obtain ⟨t, p, s⟩ := he.ex
  obtain ⟨t2, p2, s2⟩ := hg.ex
  exact ⟨_, ps_asg p p2 hs hw h1, sim_asg s s2⟩
theorem ds_set (i : Nat) {x : Str} {pos' : Pos} (he : DE X EA E EH e w) (hN : X.N.Nodup) (hi : X.N[i]? = some x := by rfl) (hx : Loc X.env.scope x := by first | exact Or.inl rfl | exact Or.inr rfl) (hs : swapsWith e (some (.Name x pos')) pos.line X.env = pure false := by rfl)
    (hf : X.fn x = true ∨ X.env.scope.names.lookup x = some .local := by first | exact .inl rfl | exact .inr rfl) : DS X EA E EH (.Assign [.Name x pos'] e pos) (wAsg w (gN i)) := by
  obtain ⟨t, p, s⟩ := he.ex
  exact ⟨_, ps_set hN hi hx p hs hf, sim_asg s sim_gN⟩
theorem ds_par (i j : Nat) {x y : Str} {px py pt : Pos} {kt k2 : Nat} {pt2 : Pos} (hc : X.calm = true) (hN : X.N.Nodup) (ha : DE X EA E EH a wa) (hb : DE X EA E EH b wb) (hij : i ≠ j) (hi : X.N[i]? = some x := by rfl) (hj : X.N[j]? = some y := by rfl)
    (hx : X.env.scope.names.lookup x = some .local := by rfl) (hy : X.env.scope.names.lookup y = some .local := by rfl) (h1 : starEach [a, b] X.env = (false, eval a X.env) :: starEach [b] X.env := by rfl) (h2 : starEach [b] X.env = (false, eval b X.env) :: starEach [] X.env := by rfl)
    (hw : swappedStores [.Tuple [.Name x px, .Name y py] kt pt] (.Tuple [a, b] k2 pt2) X.env = pure (some [x, y]) := by rfl) (hs : swapsWithSole [.Tuple [.Name x px, .Name y py] kt pt] (.Tuple [a, b] k2 pt2) pos.line X.env = pure false := by rfl) :
    DS X EA E EH (.Assign [.Tuple [.Name x px, .Name y py] kt pt] (.Tuple [a, b] k2 pt2) pos) (wPar i j wa wb) := by
  obtain ⟨ta, pa, sa⟩ := ha.ex
  obtain ⟨tb, pb, sb⟩ := hb.ex
  exact ⟨_, ps_par hc hN hi hj hij hx hy (pa_cons pa (pa_cons pb pa_nil h2) h1) hw hs, sim_par sa sb⟩
theorem ds_app {cpos : Pos} (ho : DN X a i) (h : DE X EA E EH e w) (hbase : attributeBase a "append" X.env (eval a X.env) = eval a X.env := by rfl)
    (hfew : ((backTo cpos (starEach [e] X.env)).all (fun x => !x.1) && (backToKw cpos (keywordEach [] X.env)).all (fun x => x.1.isSome) && decide ([e].length + ([] : List Keyword).length + (if ([] : List Keyword).isEmpty then 0 else 1) < 30)) = true := by rfl)
    (hline : (apos.endLine == cpos.line) = true := by rfl) (hs : starEach [e] X.env = (false, eval e X.env) :: starEach [] X.env := by rfl) (hsw : swapsWith (.Call (.Attribute a "append" apos) [e] [] cpos) none pos.line X.env = pure false := by rfl) :
    DS X EA E EH (.Expr (.Call (.Attribute a "append" apos) [e] [] cpos) pos) (wApp i w) := by
  obtain ⟨t, p, s⟩ := h.ex
  exact ⟨_, ps_expr (pe_bm PySem.F.plainAttrs_list PySem.F.slot_list_append PySem.F.type_list_append mt_append ho.ex (pa_cons p pa_nil hs) hbase hfew hline hs rfl) hsw, sim_app s⟩
theorem ds_raise {C : Addr} {bmB : List Value} {B newId initId : String} {x m : Str} {jj : Nat} {p2 : Pos} {xc : Exc} (hc : X.calm = true) (tk : L2.Takes X fun cls d _ H => EH cls d H) (F : ExcBaseFacts B newId initId bmB) (q : PySem.W.excIn X.K C bmB newId = true) (gC : X.mg x = some (.ref C)) (kC : PySem.W.keepIn X.K (.ref C) = true) (r : L2.Raises X (.ref C)) (hg : Gl X x)
    (hx : ∀ H, EA xc (.ref C) none H) (hdb : (x == ("__debug__" : Str)) = false := by decide) (hs : starEach [.Constant (.str m) jj p2] X.env = (false, eval (.Constant (.str m) jj p2) X.env) :: starEach [] X.env := by rfl) : DS X EA E EH (.Raise (some (.Call (.Name x p) [.Constant (.str m) jj p2] [] apos)) none pos) (wRaise E xc) :=
  ⟨_, L2.ps_raise hc tk (L2.pmk_own F q gC kC r hg hdb), sim_raise hx⟩
theorem ds_for {iter : Expr} {wi : WI} (hp : PassesOwn (model X.prog X.w) X.A X.env X.xe) (hc : X.calm = true) (hi : DI X EA E EH tg iter wi) (hg : DG X EA E EH tg wg) (hb : DSs X EA E EH body ws) (hs : ∀ x, foldedSetIterable iter X.env x = pure x := by intro _; rfl) : DS X EA E EH (.For tg iter body [] pos) (wFor wi wg ws) := by
  obtain ⟨t, p, s⟩ := hi.ex
  obtain ⟨t2, p2, s2⟩ := hg.ex
  obtain ⟨t3, p3, s3⟩ := hb.ex
  exact ⟨_, ps_for hp hc p p2 p3 hs, sim_for s s2 s3⟩
theorem ds_while {c : Expr} (hp : PassesOwn (model X.prog X.w) X.A X.env X.xe) (hc : DT X EA E EH c wt) (hb : DSs X EA E EH body ws) : DS X EA E EH (.While c body [] pos) (wWhile wt ws) := by
  obtain ⟨t, p, s⟩ := hc.ex
  obtain ⟨t2, p2, s2⟩ := hb.ex
  exact ⟨_, ps_while hp p p2, sim_while s s2⟩
/-! #### comprehensions -/
/-- a target of a comprehension: names of the block's own -/
structure DV (X : Cx) (EA : EAT) (e : Expr) (vs : List Nat) (tg : TG) (w : WG) : Prop where
  pg : PG X e tg
  sm : ∀ E EH, SimG X.K EA E EH tg w
  st : Sets tg vs
  mn : MonoG tg
structure DVs (X : Cx) (EA : EAT) (es : List Expr) (vs : List Nat) (tg : TGs) (w : WGs) : Prop where
  pg : PGs X es tg
  sm : ∀ E EH, SimGs X.K EA E EH tg w
  st : SetsL tg vs
  mn : MonoGs tg
theorem dv_name (i : Nat) {x : Str} {vs : List Nat} (hN : X.N.Nodup) (hi : X.N[i]? = some x := by rfl) (hx : Loc X.env.scope x := by first | exact Or.inl rfl | exact Or.inr rfl) (hf : X.fn x = true ∨ X.env.scope.names.lookup x = some .local := by first | exact .inl rfl | exact .inr rfl) (hv : i ∈ vs := by decide) : DV X EA (.Name x pos) vs (gName i) (gN i) :=
  ⟨pg_name hN hi hx hf, fun _ _ => sim_gN, sets_name hv, mono_name⟩
theorem dvs_nil {vs : List Nat} : DVs X EA [] vs L2.gNil gNil := ⟨pgs_nil, fun _ _ => sim_gNil, sets_nil, mono_nil⟩
theorem dvs_cons {es : List Expr} {vs : List Nat} {t : TG} {u : TGs} (h : DV X EA e vs t wg) (hr : DVs X EA es vs u wgs) (hs : (assignEach (e :: es) X.env).map (·.2) = assign e X.env :: (assignEach es X.env).map (·.2) := by rfl) : DVs X EA (e :: es) vs (L2.gCons t u) (gCons wg wgs) :=
  ⟨pgs_cons h.pg hr.pg hs, fun E EH => sim_gCons (h.sm E EH) (hr.sm E EH), sets_cons h.mn hr.mn h.st hr.st, mono_cons h.mn hr.mn⟩
theorem dv_tup {es : List Expr} {k n : Nat} {vs : List Nat} {u : TGs} (K : PySem.W.Frag) (hc : X.calm = true) (h : DVs X EA es vs u wgs) (hK : X.K = K := by rfl) (hn : (assignEach es X.env).length = n := by rfl) (hst : (assignEach es X.env).findIdx? (·.1) = none := by rfl) : DV X EA (.Tuple es k pos) vs (L2.gTup K n u) (gTup n wgs) := by
  subst hK
  exact ⟨pg_tup hc h.pg hn hst, fun E EH => sim_gTup (h.sm E EH), sets_tup h.st, mono_tup h.mn⟩
theorem dts_nil : DTs X EA E EH [] tYes := ⟨_, pts_nil, fun G xa ρ F σ H R Qd Q h k => k true ρ F H h R (Sub.refl _)⟩
theorem dts_one (h : DT X EA E EH c wt) : DTs X EA E EH [c] wt := by
  obtain ⟨t, p, s⟩ := h.ex
  exact ⟨_, pts_one p, s⟩
end
section
variable {X : Cx} {EA : EAT} {E : Exc → Prop} {EH : XK} {elt tg iter : Expr} {ifs : List Expr} {scope : Scope} {own : List (Str × Nat)} {pos spos py : Pos} {wi : WI} {wg : WG} {wt : WT} {w : WE} {g : TG}
/-- [elt for tg in iter if ..] -/
theorem de_lc (own : List (Str × Nat)) (hc : X.calm = true) (hN : X.N.Nodup) (hi : DI X EA E EH tg iter wi) (ok : BlkOk X.N X.env.scope scope own)
    (hg : ∀ (s : Shared) (H : Hp) (C : Addr) (cl : List (Str × Addr)) (fp : List Addr), DV (X.blk s H scope (compEnvC scope cl C X.env) fp) EA tg (own.map (·.2)) g wg)
    (ht : ∀ (s : Shared) (H : Hp) (C : Addr) (cl : List (Str × Addr)) (fp : List Addr), DTs (X.blk s H scope (compEnvC scope cl C X.env) fp) EA E0d E0 ifs wt)
    (he : ∀ (s : Shared) (H : Hp) (C : Addr) (cl : List (Str × Addr)) (fp : List Addr), DE (X.blk s H scope (compEnvC scope cl C X.env) fp) EA E0d E0 elt w)
    (hs : ∀ x, foldedSetIterable iter X.env x = pure x := by intro _; rfl) : ∃ tl, PE X (.ListComp elt [⟨tg, iter, ifs, 0⟩] scope pos) tl ∧ SimE X.K EA E EH tl (wLc wi wg wt w (own.map (·.2))) ∧
      ∀ {i : Nat} {y : Str} {spos py : Pos}, X.N[i]? = some y → X.env.scope.names.lookup y = some .local → swapsWith (.ListComp elt [⟨tg, iter, ifs, 0⟩] scope pos) (some (.Name y py)) spos.line X.env = pure true → PS X (.Assign [.Name y py] (.ListComp elt [⟨tg, iter, ifs, 0⟩] scope pos) spos) (tAsg tl (gName i)) := by
  obtain ⟨ti, pi, si⟩ := hi.ex
  -- the block's readings, one for all states in which it may begin
  let T : Shared → Hp → Addr → List (Str × Addr) → List Addr → TT := fun s H C cl fp => Classical.choose (ht s H C cl fp).ex
  let Te : Shared → Hp → Addr → List (Str × Addr) → List Addr → TE := fun s H C cl fp => Classical.choose (he s H C cl fp).ex
  let tt : TT := fun σ H Q => ∀ s H' C cl fp, T s H' C cl fp σ H Q
  let te : TE := fun σ H Q => ∀ s H' C cl fp, Te s H' C cl fp σ H Q
  have pt : ∀ (s : Shared) (H : Hp) (C : Addr) (cl : List (Str × Addr)) (fp : List Addr), PTs (X.blk s H scope (compEnvC scope cl C X.env) fp) ifs tt := fun s H C cl fp =>
    ⟨fun pins s' σ H' Q I h => (Classical.choose_spec (ht s H C cl fp).ex).1.run pins s' σ H' Q I (h s H C cl fp)⟩
  have pe : ∀ (s : Shared) (H : Hp) (C : Addr) (cl : List (Str × Addr)) (fp : List Addr), PE (X.blk s H scope (compEnvC scope cl C X.env) fp) elt te := fun s H C cl fp =>
    ⟨fun pins s' σ H' Q I h => (Classical.choose_spec (he s H C cl fp).ex).1.run pins s' σ H' Q I (h s H C cl fp)⟩
  have st : SimT X.K EA E0d E0 tt wt := fun G xa ρ F σ H R Qd Q h k s H' C cl fp => (Classical.choose_spec (ht s H' C cl fp).ex).2 G xa ρ F σ H R Qd Q h k
  have se : SimE X.K EA E0d E0 te w := fun G xa ρ F σ H R Qd Q h k s H' C cl fp => (Classical.choose_spec (he s H' C cl fp).ex).2 G xa ρ F σ H R Qd Q h k
  by_cases z : Nonempty Shared
  case neg => exact ⟨fun _ _ _ => True, ⟨fun _ s => absurd ⟨s⟩ z⟩, fun _ _ _ _ _ _ _ _ _ _ _ => trivial, fun _ _ _ => ⟨fun _ s => absurd ⟨s⟩ z⟩⟩
  have dv : (∀ E EH, SimG X.K EA E EH g wg) ∧ Sets g (own.map (·.2)) ∧ MonoG g := by
    obtain ⟨s⟩ := z
    have := hg s (fun _ => none) 0 [] []
    exact ⟨this.sm, this.st, this.mn⟩
  refine ⟨tLc ti g tt te (own.map (·.2)), pe_lc hc hN pi ok (fun s H C cl fp => (hg s H C cl fp).pg) pt pe hs, sim_lc si (dv.1 E0d E0) dv.2.1 dv.2.2 st se (fun _ z => z), fun {i y spos py} hy hl hsw => ?_⟩
  exact ps_setLc hc hN hy hl hsw pi ok (fun s H C cl fp => (hg s H C cl fp).pg) pt pe hs
theorem de_lcE (own : List (Str × Nat)) (hc : X.calm = true) (hN : X.N.Nodup) (hi : DI X EA E EH tg iter wi) (ok : BlkOk X.N X.env.scope scope own)
    (hg : ∀ (s : Shared) (H : Hp) (C : Addr) (cl : List (Str × Addr)) (fp : List Addr), DV (X.blk s H scope (compEnvC scope cl C X.env) fp) EA tg (own.map (·.2)) g wg)
    (ht : ∀ (s : Shared) (H : Hp) (C : Addr) (cl : List (Str × Addr)) (fp : List Addr), DTs (X.blk s H scope (compEnvC scope cl C X.env) fp) EA E0d E0 ifs wt)
    (he : ∀ (s : Shared) (H : Hp) (C : Addr) (cl : List (Str × Addr)) (fp : List Addr), DE (X.blk s H scope (compEnvC scope cl C X.env) fp) EA E0d E0 elt w)
    (hs : ∀ x, foldedSetIterable iter X.env x = pure x := by intro _; rfl) : DE X EA E EH (.ListComp elt [⟨tg, iter, ifs, 0⟩] scope pos) (wLc wi wg wt w (own.map (·.2))) := by
  obtain ⟨tl, p, s, _⟩ := de_lc (pos := pos) own hc hN hi ok hg ht he hs
  exact ⟨tl, p, s⟩
/-- y = [elt for tg in iter if ..], on one line, y a local -/
theorem ds_setLc (i : Nat) (own : List (Str × Nat)) {y : Str} (hc : X.calm = true) (hN : X.N.Nodup) (hi : DI X EA E EH tg iter wi) (ok : BlkOk X.N X.env.scope scope own)
    (hg : ∀ (s : Shared) (H : Hp) (C : Addr) (cl : List (Str × Addr)) (fp : List Addr), DV (X.blk s H scope (compEnvC scope cl C X.env) fp) EA tg (own.map (·.2)) g wg)
    (ht : ∀ (s : Shared) (H : Hp) (C : Addr) (cl : List (Str × Addr)) (fp : List Addr), DTs (X.blk s H scope (compEnvC scope cl C X.env) fp) EA E0d E0 ifs wt)
    (he : ∀ (s : Shared) (H : Hp) (C : Addr) (cl : List (Str × Addr)) (fp : List Addr), DE (X.blk s H scope (compEnvC scope cl C X.env) fp) EA E0d E0 elt w)
    (hsw : swapsWith (.ListComp elt [⟨tg, iter, ifs, 0⟩] scope pos) (some (.Name y py)) spos.line X.env = pure true) (hy : X.N[i]? = some y := by rfl) (hl : X.env.scope.names.lookup y = some .local := by rfl)
    (hs : ∀ x, foldedSetIterable iter X.env x = pure x := by intro _; rfl) : DS X EA E EH (.Assign [.Name y py] (.ListComp elt [⟨tg, iter, ifs, 0⟩] scope pos) spos) (wAsg (wLc wi wg wt w (own.map (·.2))) (gN i)) := by
  obtain ⟨tl, p, s, q⟩ := de_lc (pos := pos) own hc hN hi ok hg ht he hs
  exact ⟨_, q hy hl hsw, sim_asg s sim_gN⟩
end


section
variable {K : PySem.W.Frag} {F : Hp}
theorem zipD_get : ∀ {ds es : List D} {i : Nat} {d : D}, (zipD ds es)[i]? = some d → ∃ x y, ds[i]? = some x ∧ es[i]? = some y ∧ d = .tuple [x, y]
  | [], _, _, _, h => by simp [zipD] at h
  | _ :: _, [], _, _, h => by simp [zipD] at h
  | x :: ds, y :: es, 0, d, h => ⟨x, y, rfl, rfl, by simpa [zipD] using h.symm⟩
  | x :: ds, y :: es, i + 1, d, h => by
    simp only [zipD, List.getElem?_cons_succ] at h
    obtain ⟨a, b, h1, h2, h3⟩ := zipD_get h
    exact ⟨a, b, by simpa using h1, by simpa using h2, h3⟩
theorem zipD_len : ∀ (ds es : List D), (zipD ds es).length = min ds.length es.length
  | [], es => by simp [zipD]
  | x :: ds, [] => by simp [zipD]
  | x :: ds, y :: es => by simp [zipD, zipD_len ds es]
theorem walks_zipL {a b : Addr} {xs ys : List V} {ds es : List D} (sa : SqL K F a xs) (sb : SqL K F b ys) (la : AtL K F xs ds) (lb : AtL K F ys es) : Walks K F (zipD ds es) (Itz K a b) := by
  refine ⟨fun i H e h => ?_, fun i H e h => ⟨xs, ys, e.seqL sa, e.seqL sb, ?_⟩, fun i H v H' e y d hd F1 e1 e2 => ?_⟩
  · rw [zipD_len] at h
    have h1 : i < xs.length := by rw [la.length]; omega
    have h2 : i < ys.length := by rw [lb.length]; omega
    exact ⟨xs, ys, xs[i], ys[i], e.seqL sa, e.seqL sb, List.getElem?_eq_getElem h1, List.getElem?_eq_getElem h2⟩
  · rw [zipD_len] at h
    rw [la.length, lb.length]; omega
  · obtain ⟨T, x, z, rfl, hT, rfl, fx, fz⟩ := y
    obtain ⟨dx, dz, h1, h2, rfl⟩ := zipD_get hd
    obtain ⟨vx, e3, ax⟩ := la.getD h1
    obtain ⟨vz, e4, az⟩ := lb.getD h2
    have q1 : some x = some vx := (fx xs (e.seqL sa)).symm.trans e3
    have q2 : some z = some vz := (fz ys (e.seqL sb)).symm.trans e4
    cases q1
    cases q2
    have g := Gr.new (o := .tup [x, z]) e2 hT
    exact ⟨_, g, .tup (.inl (.inl upd_same)) (.cons ((ax.mono e1).mono g.ff) (.cons ((az.mono e1).mono g.ff) .nil)) (by show 2 ≤ LIM; decide)⟩
theorem walks_zipT {a b : Addr} {xs ys : List V} {ds es : List D} (sa : SqT K F a xs) (sb : SqT K F b ys) (la : AtL K F xs ds) (lb : AtL K F ys es) : Walks K F (zipD ds es) (RZ.ItzT K a b) := by
  refine ⟨fun i H e h => ?_, fun i H e h => ⟨xs, ys, e.seqT sa, e.seqT sb, ?_⟩, fun i H v H' e y d hd F1 e1 e2 => ?_⟩
  · rw [zipD_len] at h
    have h1 : i < xs.length := by rw [la.length]; omega
    have h2 : i < ys.length := by rw [lb.length]; omega
    exact ⟨xs, ys, xs[i], ys[i], e.seqT sa, e.seqT sb, List.getElem?_eq_getElem h1, List.getElem?_eq_getElem h2⟩
  · rw [zipD_len] at h
    rw [la.length, lb.length]; omega
  · obtain ⟨T, x, z, rfl, hT, rfl, fx, fz⟩ := y
    obtain ⟨dx, dz, h1, h2, rfl⟩ := zipD_get hd
    obtain ⟨vx, e3, ax⟩ := la.getD h1
    obtain ⟨vz, e4, az⟩ := lb.getD h2
    have q1 : some x = some vx := (fx xs (e.seqT sa)).symm.trans e3
    have q2 : some z = some vz := (fz ys (e.seqT sb)).symm.trans e4
    cases q1
    cases q2
    have g := Gr.new (o := .tup [x, z]) e2 hT
    exact ⟨_, g, .tup (.inl (.inl upd_same)) (.cons ((ax.mono e1).mono g.ff) (.cons ((az.mono e1).mono g.ff) .nil)) (by show 2 ≤ LIM; decide)⟩
end
section
variable {X : Cx} {EA : EAT} {E : Exc → Prop} {EH : XK} {a b : Expr} {wa wb : WE} {pos p tpos : Pos}
theorem di_zip {elts : List Expr} {kk : Nat} (hg : Gl X "zip") (hm : X.mg "zip" = none) (ha : DE X EA E EH a wa) (hb : DE X EA E EH b wb) (h1 : starEach [a, b] X.env = (false, eval a X.env) :: starEach [b] X.env := by rfl) (h2 : starEach [b] X.env = (false, eval b X.env) :: starEach [] X.env := by rfl) (hpl : (backTo pos (starEach [b] X.env)).any (·.1) = false := by rfl) :
    DI X EA E EH (.Tuple elts kk tpos) (.Call (.Name "zip" p) [a, b] [] pos) (itZ wa wb) := by
  obtain ⟨ta, pa, sa⟩ := ha.ex
  obtain ⟨tb, pb, sb⟩ := hb.ex
  refine ⟨_, RZ.pi_zipA hg hm (pa_cons pa (pa_cons pb pa_nil h2) h1) h1 hpl, fun G xa ρ F σ H R Qd Q h k => ?_⟩
  refine sa.run xa R (Qd := fun d ρ1 => wb ρ1 fun e _ ρ2 => ∃ xs ys, ((d = .list xs ∧ e = .list ys) ∨ (d = .tuple xs ∧ e = .tuple ys)) ∧ Qd (zipD xs ys) ρ2) h fun d ρ1 v F1 H1 h1 R1 s1 a1 => ?_
  refine sb.run xa R1 (Qd := fun e ρ2 => ∃ xs ys, ((d = .list xs ∧ e = .list ys) ∨ (d = .tuple xs ∧ e = .tuple ys)) ∧ Qd (zipD xs ys) ρ2) h1 fun e ρ2 u F2 H2 h2 R2 s2 a2 => ?_
  obtain ⟨ds, es, hd, q⟩ := h2
  have a1' := a1.mono s2
  rcases hd with ⟨rfl, rfl⟩ | ⟨rfl, rfl⟩
  · cases a1' with
    | lst ea la _ =>
      cases a2 with
      | lst eb lb _ => exact ⟨_, _, _, _, rfl, .inl ⟨.inl (.inl (R2.sub _ _ ea)), .inl (.inl (R2.sub _ _ eb)), k _ ρ2 F2 H2 _ q R2 (s1.trans s2) (walks_zipL (.inl (.inl ea)) (.inl (.inl eb)) la lb)⟩⟩
  · cases a1' with
    | tup ea la _ =>
      cases a2 with
      | tup eb lb _ => exact ⟨_, _, _, _, rfl, .inr ⟨R2.sub.seqT ea, R2.sub.seqT eb, k _ ρ2 F2 H2 _ q R2 (s1.trans s2) (walks_zipT ea eb la lb)⟩⟩
end

/-! ### what a def's body may count on -/
section
variable {P : Program} {w : World} {K : PySem.W.Frag} {mg : Str → Option Value} {base : Heap} {N : List Str} {qual : Str} {scope : Scope} {f : Addr} {cd : Value} {A : Around} {outer : List PySem.Env} {s : Shared} {H : Hp} {E : XK}
theorem takesX : L2.Takes (cxOf (L2.CX P w) P w K mg base N qual scope f cd A outer s H E) (fun cls d _ H => E cls d H) := L2.takes_of rfl rfl rfl rfl
theorem passX : Passes (L2.CX P w) (cxOf (L2.CX P w) P w K mg base N qual scope f cd A outer s H E) E := fun pins σ H s e s' I c => L2.passes_call takesX (fun _ _ _ _ h => h) pins σ H s e s' I c
theorem ownX : PassesOwn (model P w) (cxOf (L2.CX P w) P w K mg base N qual scope f cd A outer s H E).A (cxOf (L2.CX P w) P w K mg base N qual scope f cd A outer s H E).env (cxOf (L2.CX P w) P w K mg base N qual scope f cd A outer s H E).xe := L2.passes_of (K := fun e s'' => L2.CX P w outer H s E e s'') rfl
end
/-! ### the law's own call -/
theorem sp_law {K : PySem.W.Frag} {EA : EAT} {B : List Int → Prop} {H : Hp} {a : Addr} {ns : List Int} (hS : SqL K H a (ns.map V.int)) (hO : Only H) (hl : ns.length ≤ LIM) (hB : B ns) : spOf K EA [false] (lawC B) [.ref a] H (fun v _ => v = .bl true) fun _ _ _ => False := by
  refine ⟨H, [scrD (ns.map PyData.int)], [], fun r f ls => r = .bool true, fun _ => False, Sub.refl _, .da (.scr hS (.ofInts ns) (by rw [List.length_map]; exact hl)) .nil, ⟨ns, rfl, hB, fun f => rfl⟩, fun r f ls v F' H' q h1 h2 h3 h4 h5 n => ?_, fun x z => z.elim⟩
  subst q
  cases f with
  | false =>
    have := n.1 rfl
    cases this
    rfl
  | true =>
    obtain ⟨p, _, _, _, o⟩ := n.2 rfl
    exact o.elim
theorem law_run {P : Program} {w : World} {K : PySem.W.Frag} {mg mb : Str → Option Value} {k : Nat} {fa a : Addr} {fd : FuncData} {x : Str} {sp : Sp} {s₁ : Shared} {vs : List Value} {ns : List Int}
    (inK : K.In s₁.heap) (hns : s₁.heap.Ns mainGlobals mg) (hb : s₁.heap.Ns builtinsNs mb) (hbb : ∀ x : Str, x ≠ "__name__" → mb x = bootBuiltins x) (unlim : s₁.heap.NoLimit) (hg : s₁.gens = #[])
    (ha : s₁.heap.get? a = some { cls := .type "list", data := .seq vs.toArray }) (hi : PyProof.Rows.IntsAre vs ns) (hl : ns.length ≤ sizeLine) (hr : Room k callerA) (gd : callerA.guards = some [])
    (F : ∀ base : Heap, K.In base → base.Ns mainGlobals mg → FnG P w K mg base k fa fd [x] sp) (hbind : ∀ (s : Shared) (u : Value), BindsTo s fd ⟨[u], []⟩ [(x, u)])
    (hsp : ∀ H : Hp, Only H → SqL K H a (ns.map V.int) → sp [.ref a] H (fun v _ => v = .bl true) fun _ _ _ => False) :
    codeAny (model P w) callerA (.call (.ref fa) ⟨[.ref a], []⟩) (fun r s' => r = .ok (.ret (.bool true)) ∧ OldK s₁.heap s'.heap ∧ s'.os = s₁.os ∧ PyProof.Rows.AllBare s'.gens) s₁ := by
  have rv := vals_ints hi
  have lenV := hi.length
  -- over an abstract heap that tracks the script, or nothing
  have over : ∀ H : Hp, Only H → SqL K H a (ns.map V.int) → HOk P w H s₁.heap → (∀ b, H b ≠ none → b = a) → (H a ≠ none → K.lookup a = none) →
      codeAny (model P w) callerA (.call (.ref fa) ⟨[.ref a], []⟩) (fun r s' => r = .ok (.ret (.bool true)) ∧ OldK s₁.heap s'.heap ∧ s'.os = s₁.os ∧ PyProof.Rows.AllBare s'.gens) s₁ := by
    intro H only sq ok alone apart
    have below : ∀ {b : Addr} {m : Str → Option Value}, s₁.heap.Ns b m → (hidT s₁.heap H).Ns b m := by
      rintro b m ⟨o, es, ep, e, d, r⟩
      refine ⟨o, es, ep, hidT_get e ?_, d, r⟩
      cases q : H b with
      | none => rfl
      | some u =>
        have e' : b = a := alone b (by rw [q]; exact fun z => nomatch z)
        subst e'
        rw [ha] at e; cases e
        cases (show Data.seq vs.toArray _ = Data.dict es ep from d)
    have inB : K.In (hidT s₁.heap H) := fun b o e => hidT_get (inK b o e) (by
      cases q : H b with
      | none => rfl
      | some u =>
        have e' : b = a := alone b (by rw [q]; exact fun z => nomatch z)
        subst e'
        rw [apart (by rw [q]; exact fun z => nomatch z)] at e; cases e)
    have md : Mod K mg (hidT s₁.heap H) := ⟨inB, below hns, ⟨mb, below hb, hbb⟩, by obtain ⟨mc, z1, z2⟩ := unlim; exact ⟨mc, below z1, z2⟩⟩
    have en : Env0 P w K mg (hidT s₁.heap H) callerA [] s₁ H := ⟨rfl, md, fun b o e => of_hidT e, Nat.le_of_eq (hidT_size _ _), trivial, fun b z => absurd (show b ∈ ([] : List Addr) from z) List.not_mem_nil, ok, .of_eq hg⟩
    refine codeAny_mono ((F _ inB (below hns)).run callerA [] s₁ H ⟨[.ref a], []⟩ [.ref a] [.ref a] _ _ hr gd en (hbind s₁ (.ref a)) (.cons rfl .nil) (hsp H only sq)) ?_
    intro r s' z
    match r, z with
    | .error e, z =>
      obtain ⟨_, _, _, _, _, _, _, _, _, _, _, _, q⟩ := z
      exact q.elim
    | .ok .next, z => exact z.elim
    | .ok .brk, z => exact z.elim
    | .ok .cont, z => exact z.elim
    | .ok (.ret u), z =>
      obtain ⟨v, H', os, bare, un, ok', rvu, q⟩ := z
      have q' : v = .bl true := q
      subst q'
      have hu : u = Value.bool true := rvu
      subst hu
      refine ⟨rfl, OldK.of_keep fun b o e => ?_, os, bare⟩
      cases q : H b with
      | none => exact un.keep b o e q (fun z => absurd (show b ∈ ([] : List Addr) from z) List.not_mem_nil) List.not_mem_nil
      | some u =>
        rcases only b with z | ⟨ob, xs, z⟩
        · rw [q] at z; cases z
        · have still := un.frzs b ob _ z
          obtain ⟨e1, _⟩ := ok b _ z
          obtain ⟨e2, _⟩ := ok' b _ still
          rw [e] at e1; cases e1
          exact e2
  by_cases hk : K.lookup a = none
  · have yes : ∀ {b : Addr}, b = a → (fun b => if b = a then some (HO.frz { cls := .type "list", data := .seq vs.toArray } (.lst (ns.map V.int))) else none : Hp) b = some (HO.frz { cls := .type "list", data := .seq vs.toArray } (.lst (ns.map V.int))) := fun e => if_pos e
    have no : ∀ {b : Addr}, b ≠ a → (fun b => if b = a then some (HO.frz { cls := .type "list", data := .seq vs.toArray } (.lst (ns.map V.int))) else none : Hp) b = none := fun e => if_neg e
    refine over (fun b => if b = a then some (HO.frz { cls := .type "list", data := .seq vs.toArray } (.lst (ns.map V.int))) else none) (fun b => ?_) (.inl (.inr ⟨_, yes rfl⟩)) (fun b u z => ?_) (fun b z => ?_) fun _ => hk
    · by_cases q : b = a
      · exact .inr ⟨_, _, yes q⟩
      · exact .inl (no q)
    · by_cases q : b = a
      · rw [yes q] at z
        cases z
        subst q
        exact ⟨ha, by rw [List.length_map]; exact hl, vs, _, rv, ha⟩
      · rw [no q] at z; cases z
    · by_cases q : b = a
      · exact q
      · exact absurd (no q) z
  · obtain ⟨o, ho⟩ := Option.ne_none_iff_exists'.mp hk
    have e := inK a o ho
    rw [ha] at e
    cases e
    exact over (fun _ => none) (fun _ => .inl rfl) (.inr ⟨_, vs.toArray, _, ho, rfl, rfl, rfl, by rw [List.size_toArray, lenV]; exact hl, by simpa using rv⟩) (fun b u z => nomatch z) (fun b z => absurd rfl z) fun z => absurd rfl z
theorem walk_law {l : PySem.W.OpenLaw} {n k : Nat} {q : Program} {loose : List Str} {XP : (Str → Option Value) → Heap → Prop} {YP : World → Heap → Prop} {d : PySem.DefRec} {K : Params → PySem.W.Frag} {sp : World → Sp} {x : Str}
    (hn : l.most = some n) (hn2 : n ≤ sizeLine) (hdf : d.params.defaults = []) (hr : Room k callerA) (gd : callerA.guards = some [])
    (hY : ∀ (w : World) (h : Heap), YP w h → (K w.params).In h)
    (F : ∀ (w : World) (mg : Str → Option Value) (fa : Addr) (h : Heap), (K w.params).In h → h.Ns mainGlobals mg → mg d.name = some (.ref fa) →
      ∃ fd : FuncData, (∀ (s : Shared) (u : Value), BindsTo s fd ⟨[u], []⟩ [(x, u)]) ∧ ∀ base : Heap, (K w.params).In base → base.Ns mainGlobals mg → FnG l.prog w (K w.params) mg base k fa fd [x] (sp w))
    (hsp : ∀ (w : World) (H : Hp) (a : Addr) (ns : List Int), ns.length ≤ n → (∀ z ∈ ns, Builtin.Int.intBits z ≤ 1048576) → Only H → SqL (K w.params) H a (ns.map V.int) → sp w [.ref a] H (fun v _ => v = .bl true) fun _ _ _ => False) :
    PySem.W.WalkO q loose XP YP l.row.toRowW d [] (fun f vs => PySem.call f vs) := by
  refine Att.attach_callB hn hdf ?_
  intro w s₀ s₁ mg mb fa o pm cd doc a vs ns G Y ho hd hcd hmg hobj hints hlen hbits hg
  obtain ⟨fd, hb, hF⟩ := F w mg fa _ (hY w _ Y) G.T.g hmg
  exact law_run (hY w _ Y) G.T.g G.T.b G.T.builtins G.T.nolimit hg hobj hints (Nat.le_trans hlen hn2) hr gd hF hb fun H hO hS => hsp w H a ns hlen hbits hO hS
end Dl
set_option maxRecDepth 100000
/-! Dw: small facts for reading what Dl's readings ask. -/
namespace Dl
open PySem
set_option autoImplicit false
theorem atD0 {α : Type} (x : α) (xs : List α) : atD (x :: xs) 0 = some x := by
  unfold atD ixD
  simp
theorem atD1 {α : Type} (x y : α) (xs : List α) : atD (x :: y :: xs) 1 = some y := by
  unfold atD ixD
  simp [show (1 : Int) < (xs.length : Int) + 1 + 1 by omega]
theorem atD2 {α : Type} (x y z : α) (xs : List α) : atD (x :: y :: z :: xs) 2 = some z := by
  unfold atD ixD
  simp [show (2 : Int) < (xs.length : Int) + 1 + 1 + 1 by omega]
theorem atD_nat {α : Type} (xs : List α) (k : Nat) : atD xs (k : Int) = xs[k]? := by
  unfold atD ixD
  simp
  by_cases h : k < xs.length
  · simp [h]
  · simp [h]
theorem ixD0 (n : Nat) : ixD (n + 1) 0 = some 0 := by
  unfold ixD
  simp
theorem ixD1 (n : Nat) : ixD (n + 1 + 1) 1 = some 1 := by
  unfold ixD
  simp
  omega
theorem ixD_nat (n k : Nat) (h : k < n) : ixD n (k : Int) = some k := by
  unfold ixD
  simp [h]
theorem tame_none : tame .none := ⟨rfl, Nat.zero_le _⟩
theorem tame_int (i : Int) : tame (.int i) := ⟨rfl, Nat.zero_le _⟩
theorem tame_str (i : Str) : tame (.str i) := ⟨rfl, Nat.zero_le _⟩
theorem tame_bool (i : Bool) : tame (.bool i) := ⟨rfl, Nat.zero_le _⟩
theorem eqv_int (i j : Int) : PyData.eqv (.int i) (.int j) = decide (i = j) := by
  simp only [PyData.eqv]; exact Bool.beq_eq_decide_eq i j
theorem lent_nil : lent [] = [] := rfl
theorem lent_none (ρ : Env) : lent (none :: ρ) = lent ρ := rfl
theorem lent_sh (d : D) (ρ : Env) : lent (some (.sh d) :: ρ) = lent ρ := rfl
theorem lent_ow (d : D) (ρ : Env) : lent (some (.ow d) :: ρ) = lent ρ := rfl
theorem lent_bo (d : D) (ρ : Env) : lent (some (.bo d) :: ρ) = d :: lent ρ := rfl
theorem setE_t (ρ : Env) (i : Nat) (d : D) : setE ρ i d true = ρ.set i (some (.ow d)) := rfl
theorem setE_f (ρ : Env) (i : Nat) (d : D) : setE ρ i d false = ρ.set i (some (.sh d)) := rfl
theorem free_sh (d : D) (ρ : Env) : free (some (.sh d) :: ρ) 0 = True := rfl
theorem free_ow (d : D) (ρ : Env) : free (some (.ow d) :: ρ) 0 = True := rfl
theorem free_none (ρ : Env) : free (none :: ρ) 0 = True := rfl
theorem free_s (x : Option EV) (ρ : Env) (n : Nat) : free (x :: ρ) (n + 1) = free ρ n := rfl
theorem rdE_0 (e : EV) (ρ : Env) : rdE (some e :: ρ) 0 = some e.dat := rfl
theorem rdE_s (x : Option EV) (ρ : Env) (n : Nat) : rdE (x :: ρ) (n + 1) = rdE ρ n := rfl
theorem rangeL_zero (lo : Int) : rangeL lo 0 = [] := rfl
theorem rangeL_succ (lo : Int) (n : Nat) : rangeL lo (n + 1) = .int lo :: rangeL (lo + 1) n := by
  unfold rangeL
  rw [List.range_succ_eq_map]
  simp only [List.map_cons, List.map_map]
  congr 1
  · simp
  · apply List.map_congr_left
    intro k _
    simp only [Function.comp]
    congr 1
    omega
theorem rangeL_length (lo : Int) (n : Nat) : (rangeL lo n).length = n := by
  unfold rangeL
  simp
/-! ### data that shows in at most n signs, no deeper than k -/
def Sd (k n : Nat) (d : D) : Prop := d.plain = true ∧ d.depth ≤ k ∧ d.showable = true ∧ d.shown.length ≤ n
def SdA (k n : Nat) (xs : List D) : Prop := PyData.plainAll xs = true ∧ PyData.depthAll xs ≤ k ∧ PyData.showableAll xs = true ∧ ((PyData.shownAll xs).map (·.length)).sum + 2 * xs.length ≤ n
theorem Sd_mono {k n k' n' : Nat} {d : D} (h : Sd k n d) (hk : k ≤ k') (hn : n ≤ n') : Sd k' n' d := ⟨h.1, Nat.le_trans h.2.1 hk, h.2.2.1, Nat.le_trans h.2.2.2 hn⟩
theorem SdA_mono {k n k' n' : Nat} {d : List D} (h : SdA k n d) (hk : k ≤ k') (hn : n ≤ n') : SdA k' n' d := ⟨h.1, Nat.le_trans h.2.1 hk, h.2.2.1, Nat.le_trans h.2.2.2 hn⟩
theorem log2_lt_of {n k : Nat} (h : n < 2 ^ k) (hk : 0 < k) : n.log2 < k := by
  by_cases h0 : n = 0
  · subst h0
    simpa using hk
  · exact (Nat.log2_lt h0).mpr h
theorem txt_len {i : Int} {m : Nat} (h : i.natAbs < 2 ^ m) (h0 : 0 < m) : (txt i).length ≤ m + 1 := by
  have h1 := int_text_length_le h0 (log2_lt_of h h0)
  unfold txt
  rwa [ofString_length]
theorem Sd_int {i : Int} {m : Nat} (h : i.natAbs < 2 ^ m) (h0 : 0 < m) (h1 : m ≤ 1920) : Sd 0 (m + 1) (.int i) := by
  refine ⟨rfl, Nat.le_refl _, ?_, ?_⟩
  · simp only [PyData.showable, decide_eq_true_eq]
    exact Nat.lt_of_lt_of_le (log2_lt_of h h0) h1
  · exact txt_len h h0
theorem Sd_bool (b : Bool) : Sd 0 5 (.bool b) := ⟨rfl, Nat.le_refl _, rfl, by cases b <;> decide⟩
theorem Sd_none : Sd 0 4 .none := ⟨rfl, Nat.le_refl _, rfl, by decide⟩
theorem Sd_str {x : Str} {n : Nat} (h : ∀ c ∈ x.cps.toList, c < 16 ^ 8) (hn : x.length ≤ n) : Sd 0 (10 * n + 2) (.str x) := by
  refine ⟨rfl, Nat.le_refl _, rfl, ?_⟩
  have e := StrLaws.reprText_len x h
  simp only [PyData.shown]
  omega
theorem SdA_nil (k : Nat) : SdA k 0 [] := ⟨rfl, Nat.zero_le _, rfl, Nat.le_refl _⟩
theorem SdA_cons {k n m : Nat} {x : D} {xs : List D} (h : Sd k n x) (ht : SdA k m xs) : SdA k (n + m + 2) (x :: xs) := by
  obtain ⟨a, b, c, d⟩ := h
  obtain ⟨a', b', c', d'⟩ := ht
  refine ⟨by simp [PyData.plainAll, a, a'], by simp [PyData.depthAll]; omega, by simp [PyData.showableAll, c, c'], ?_⟩
  simp only [PyData.shownAll, List.map_cons, List.sum_cons, List.length_cons]
  omega
theorem SdA_all {k n : Nat} : ∀ {xs : List D}, (∀ x ∈ xs, Sd k n x) → SdA k ((n + 2) * xs.length) xs
  | [], _ => SdA_nil k
  | x :: xs, h => by
    have h1 := SdA_cons (h x (List.mem_cons_self ..)) (SdA_all fun y hy => h y (List.mem_cons_of_mem _ hy))
    refine SdA_mono h1 (Nat.le_refl _) ?_
    rw [List.length_cons, Nat.mul_add, Nat.mul_one]
    omega
theorem Sd_list {k n : Nat} {xs : List D} (h : SdA k n xs) : Sd (k + 1) (n + 3) (.list xs) := by
  obtain ⟨a, b, c, d⟩ := h
  refine ⟨by simp [PyData.plain, a], by simp [PyData.depth]; omega, by simp [PyData.showable, c], ?_⟩
  have h2 := listText_len_le (PyData.shownAll xs)
  have h3 := PyData.shownAll_length xs
  simp only [PyData.shown]
  omega
theorem Sd_tuple {k n : Nat} {xs : List D} (h : SdA k n xs) : Sd (k + 1) (n + 3) (.tuple xs) := by
  obtain ⟨a, b, c, d⟩ := h
  refine ⟨by simp [PyData.plain, a], by simp [PyData.depth]; omega, by simp [PyData.showable, c], ?_⟩
  have h2 := tupleText_len_le (PyData.shownAll xs)
  have h3 := PyData.shownAll_length xs
  simp only [PyData.shown]
  omega
/-- what _law_same needs -/
theorem same_ok {a : D} (h : Sd 40 1000000 a) : (tame (.list [a]) ∧ PyData.showable (.list [a]) = true ∧ (PyData.shown (.list [a])).length ≤ LIM) := by
  have h1 := Sd_list (SdA_cons h (SdA_nil 40))
  exact ⟨⟨h1.1, Nat.le_trans h1.2.1 (by omega)⟩, h1.2.2.1, Nat.le_trans h1.2.2.2 (by decide)⟩
theorem eqv_str_self (x : Str) : PyData.eqv (.str x) (.str x) = true := SeqAt.eqv_refl_plain _ rfl
def shortL (ds : List D) : Prop := ds.length ≤ LIM
def inR (n : Int) : Prop := -4611686018427387904 ≤ n ∧ n < 4611686018427387904
def getE (ρ : Env) (v : Nat) : Option EV := ρ[v]?.getD none
def repOk (xs : List D) (k : Int) : Prop := -9223372036854775808 ≤ k ∧ k < 9223372036854775808 ∧ xs.length * k.toNat ≤ LIM
def fdivOk (j : Int) : Prop := j ≠ 0 ∧ j.natAbs.log2 < 9000
def powOk (i j : Int) : Prop := 0 ≤ j ∧ j ≤ 1000000 ∧ i.natAbs < 18446744073709551616
def shOk (i : Int) : Prop := i.natAbs.log2 < 1920
/-! ### readings unrolled from the outside; Held parts are left for later -/
inductive Dep (p : Prop) : Type where
  | mk
/-- p, which simp does not enter -/
@[reducible] def Hold (p : Prop) (_ : Dep p) : Prop := p
theorem forGo_rule {g : WG} {body : WS} {P : Po} (I : List D → Env → Prop) (h0 : ∀ ρ, I [] ρ → P.nx ρ)
    (hs : ∀ x xs ρ (K : Env → Prop), (∀ ρ', I xs ρ' → K ρ') → I (x :: xs) ρ → g x false ρ fun ρ1 => body { P with nx := K, ct := K, bk := P.nx } ρ1) :
    ∀ xs ρ, I xs ρ → forGo g body P xs ρ
  | [], ρ, h => h0 ρ h
  | x :: xs, ρ, h => hs x xs ρ (forGo g body P xs) (fun ρ' h' => forGo_rule I h0 hs xs ρ' h') h
theorem lcGo_rule {g : WG} {t : WT} {e : WE} {vs : List Nat} {Q : List D → Env → Prop} (I : List D → List D → Env → Prop) (h0 : ∀ acc ρ, I [] acc ρ → Q acc ρ)
    (hs : ∀ x xs acc ρ (K : List D → Env → Prop), (∀ acc' ρ', I xs acc' ρ' → K acc' ρ') → I (x :: xs) acc ρ → g x false ρ fun ρ1 => t ρ1 fun b ρ2 =>
      Hold ((b = true → e ρ2 fun d _ ρ3 => K (acc ++ [d]) (wipeE ρ3 vs)) ∧ (b = false → K acc (wipeE ρ2 vs))) .mk) :
    ∀ xs acc ρ, I xs acc ρ → lcGo g t e vs Q xs acc ρ
  | [], acc, ρ, h => h0 acc ρ h
  | x :: xs, acc, ρ, h => hs x xs acc ρ (lcGo g t e vs Q xs) (fun acc' ρ' h' => lcGo_rule I h0 hs xs acc' ρ' h') h
theorem wWhile_rule {t : WT} {body : WS} {P : Po} {ρ : Env} (W : Nat → Env → Prop) (m : Nat) (h0 : W m ρ)
    (hs : ∀ m ρ1 (K : Env → Prop), (∀ m' ρ3, m' < m → W m' ρ3 → K ρ3) → W m ρ1 → t ρ1 fun b ρ2 =>
      Hold ((b = true → body { P with nx := K, ct := K, bk := P.nx } ρ2) ∧ (b = false → P.nx ρ2)) .mk) : wWhile t body P ρ :=
  ⟨W, ⟨m, h0⟩, fun m ρ1 h => hs m ρ1 _ (fun m' ρ3 hm hw => ⟨m', hm, hw⟩) h⟩
theorem Hold.of {p : Prop} {h : Dep p} (x : p) : Hold p h := x
def rdK (ρ : Env) (i : Nat) (k : D → Prop) : Prop := match rdE ρ i with
  | some d => k d
  | none => False
theorem rdK_0 (e : EV) (ρ : Env) (k : D → Prop) : rdK (some e :: ρ) 0 k = k e.dat := rfl
theorem rdK_s (x : Option EV) (ρ : Env) (n : Nat) (k : D → Prop) : rdK (x :: ρ) (n + 1) k = rdK ρ n k := rfl
theorem dat_sh (d : D) : (EV.sh d).dat = d := rfl
theorem dat_ow (d : D) : (EV.ow d).dat = d := rfl
theorem dat_bo (d : D) : (EV.bo d).dat = d := rfl
theorem wV_sh (d : D) (ρ : Env) (Q : KE) : wV 0 (some (.sh d) :: ρ) Q = Q d false (some (.sh d) :: ρ) := rfl
theorem wV_ow (d : D) (ρ : Env) (Q : KE) : wV 0 (some (.ow d) :: ρ) Q = Q d false (some (.sh d) :: ρ) := rfl
theorem wV_s (n : Nat) (x : Option EV) (ρ : Env) (Q : KE) : wV (n + 1) (x :: ρ) Q = wV n ρ fun d f ρ' => Q d f (x :: ρ') := by
  simp only [wV, List.getElem?_cons_succ, List.set_cons_succ]
theorem wC_h (d : D) (ρ : Env) (Q : KE) : wC d ρ Q = Q d false ρ := rfl
theorem wO_h (o : O1) (a : WE) (ρ : Env) (Q : KE) : wO o a ρ Q = a ρ fun d _ ρ1 => o d fun r f => Q r f ρ1 := rfl
theorem wOP_h (o : O1) (i : Nat) (ρ : Env) (Q : KE) : wOP o i ρ Q = rdK ρ i fun d => o d fun r f => Q r f ρ := rfl
theorem wB_h (o : O2) (a b : WE) (ρ : Env) (Q : KE) : wB o a b ρ Q = a ρ fun d _ ρ1 => b ρ1 fun e _ ρ2 => o d e fun r f => Q r f ρ2 := rfl
theorem isS_h (ρ : Env) (i : Nat) : ((rdE ρ i).isSome = true) = rdK ρ i fun _ => True := by
  unfold rdK
  cases rdE ρ i <;> simp
def sureK (ρ : Env) (i : Nat) (p : Prop) : Prop := (rdE ρ i).isSome = true ∧ p
theorem sureK_0 (e : EV) (ρ : Env) (p : Prop) : sureK (some e :: ρ) 0 p = p := by simp [sureK, rdE_0]
theorem sureK_s (x : Option EV) (ρ : Env) (n : Nat) (p : Prop) : sureK (x :: ρ) (n + 1) p = sureK ρ n p := rfl
theorem wBL_h (o : O2) (i : Nat) (b : WE) (ρ : Env) (Q : KE) : wBL o i b ρ Q = sureK ρ i (b ρ fun e _ ρ1 => rdK ρ1 i fun d => o d e fun r f => Q r f ρ1) := rfl
theorem wBR_h (o : O2) (a : WE) (i : Nat) (ρ : Env) (Q : KE) : wBR o a i ρ Q = a ρ fun d _ ρ1 => rdK ρ1 i fun e => o d e fun r f => Q r f ρ1 := rfl
theorem wBB_h (o : O2) (i j : Nat) (ρ : Env) (Q : KE) : wBB o i j ρ Q = rdK ρ i fun d => rdK ρ j fun e => o d e fun r f => Q r f ρ := by
  unfold wBB rdK
  cases rdE ρ i <;> cases rdE ρ j <;> rfl
theorem wNil_h (ρ : Env) (Q : List D → Env → Prop) : wNil ρ Q = Q [] ρ := rfl
theorem wCons_h (a : WE) (t : WA) (ρ : Env) (Q : List D → Env → Prop) : wCons a t ρ Q = a ρ fun d _ ρ1 => t ρ1 fun ds ρ2 => Q (d :: ds) ρ2 := rfl
@[reducible] def shortK (ds : List D) (p : Prop) : Prop := shortL ds ∧ p
theorem wTup_h (t : WA) (ρ : Env) (Q : KE) : wTup t ρ Q = t ρ fun ds ρ1 => shortK ds (Q (.tuple ds) false ρ1) := rfl
theorem wLst_h (t : WA) (ρ : Env) (Q : KE) : wLst t ρ Q = t ρ fun ds ρ1 => shortK ds (Q (.list ds) true ρ1) := rfl
theorem wF_h (o : OA) (t : WA) (ρ : Env) (Q : KE) : wF o t ρ Q = t ρ fun ds ρ1 => o ds fun r f => Q r f ρ1 := rfl
theorem wCall_h (C : Con) (E : Exc → Prop) (t : WA) (ρ : Env) (Q : KE) : wCall C E t ρ Q = t ρ fun ds ρ1 => Hold (C ds (fun r f _ => Q r f ρ1) E) .mk := rfl
/-- a lent object: what it is, what it becomes -/
def lendK (C : Con) (E : Exc → Prop) (ds : List D) (ρ : Env) (i : Nat) (Q : KE) : Prop := match ρ[i]? with
  | some (some (.ow d)) => C (d :: ds) (fun r f bs => ∃ d', bs = [d'] ∧ Q r f (ρ.set i (some (.ow d')))) E
  | some (some (.bo d)) => C (d :: ds) (fun r f bs => ∃ d', bs = [d'] ∧ Q r f (ρ.set i (some (.bo d')))) E
  | _ => False
theorem lendK_ow (C : Con) (E : Exc → Prop) (ds : List D) (d : D) (ρ : Env) (Q : KE) : lendK C E ds (some (.ow d) :: ρ) 0 Q = Hold (C (d :: ds) (fun r f bs => ∃ d', bs = [d'] ∧ Q r f (some (.ow d') :: ρ)) E) .mk := rfl
theorem lendK_bo (C : Con) (E : Exc → Prop) (ds : List D) (d : D) (ρ : Env) (Q : KE) : lendK C E ds (some (.bo d) :: ρ) 0 Q = Hold (C (d :: ds) (fun r f bs => ∃ d', bs = [d'] ∧ Q r f (some (.bo d') :: ρ)) E) .mk := rfl
theorem lendK_s (C : Con) (E : Exc → Prop) (ds : List D) (x : Option EV) (ρ : Env) (n : Nat) (Q : KE) : lendK C E ds (x :: ρ) (n + 1) Q = lendK C E ds ρ n (fun d f ρ' => Q d f (x :: ρ')) := by
  simp only [lendK, List.getElem?_cons_succ, List.set_cons_succ]
theorem wCallB_h (C : Con) (E : Exc → Prop) (i : Nat) (t : WA) (ρ : Env) (Q : KE) : wCallB C E i t ρ Q = sureK ρ i (t ρ fun ds ρ1 => lendK C E ds ρ1 i Q) := rfl
theorem exB (x : Bool) (p : Bool → Prop) : Hold (∃ b, PyData.bool x = .bool b ∧ p b) .mk = p x := by simp [Hold]
theorem exI (x : Int) (p : Int → Prop) : Hold (∃ b, PyData.int x = .int b ∧ p b) .mk = p x := by simp [Hold]
theorem exS (x : Str) (p : Str → Prop) : Hold (∃ b, PyData.str x = .str b ∧ p b) .mk = p x := by simp [Hold]
theorem exT (x : List D) (p : List D → Prop) : Hold (∃ b, PyData.tuple x = .tuple b ∧ p b) .mk = p x := by simp [Hold]
theorem exL (x : List D) (p : List D → Prop) : Hold (∃ b, PyData.list x = .list b ∧ p b) .mk = p x := by simp [Hold]
theorem exC (x : D) (xs : List D) (p : D → List D → Prop) : Hold (∃ d t, x :: xs = d :: t ∧ p d t) .mk = p x xs := by
  unfold Hold
  simp only [List.cons.injEq]
  exact propext ⟨fun ⟨_, _, ⟨a, b⟩, h⟩ => by subst a; subst b; exact h, fun h => ⟨_, _, ⟨rfl, rfl⟩, h⟩⟩
theorem exD (x : D) (p : D → Prop) : (∃ d, [x] = [d] ∧ p d) = p x := by simp
theorem exLL (x : List D) (p : List D → Prop) : Hold (∃ b, (PyData.list x = .list b ∨ PyData.list x = .tuple b) ∧ p b) .mk = p x := by simp [Hold]
theorem exLT (x : List D) (p : List D → Prop) : Hold (∃ b, (PyData.tuple x = .list b ∨ PyData.tuple x = .tuple b) ∧ p b) .mk = p x := by simp [Hold]
theorem exAt0 (x : D) (xs : List D) (p : D → Prop) : Hold (∃ z, atD (x :: xs) 0 = some z ∧ p z) .mk = p x := by simp [Hold, atD0]
theorem exAt1 (x y : D) (xs : List D) (p : D → Prop) : Hold (∃ z, atD (x :: y :: xs) 1 = some z ∧ p z) .mk = p y := by simp [Hold, atD1]
theorem exAt2 (x y u : D) (xs : List D) (p : D → Prop) : Hold (∃ z, atD (x :: y :: u :: xs) 2 = some z ∧ p z) .mk = p u := by simp [Hold, atD2]
theorem wTv_h (e : WE) (ρ : Env) (Q : Bool → Env → Prop) : wTv e ρ Q = e ρ fun d _ ρ1 => Hold (∃ b, d = .bool b ∧ Q b ρ1) .mk := rfl
theorem wAnd_h (a b : WT) (ρ : Env) (Q : Bool → Env → Prop) : wAnd a b ρ Q = a ρ fun c ρ1 => Hold ((c = true → b ρ1 Q) ∧ (c = false → Q false ρ1)) .mk := rfl
theorem wOr_h (a b : WT) (ρ : Env) (Q : Bool → Env → Prop) : wOr a b ρ Q = a ρ fun c ρ1 => Hold ((c = true → Q true ρ1) ∧ (c = false → b ρ1 Q)) .mk := rfl
theorem wNot_h (a : WT) (ρ : Env) (Q : Bool → Env → Prop) : wNot a ρ Q = a ρ fun c ρ1 => Q (!c) ρ1 := rfl
theorem wAndV_h (a b : WE) (ρ : Env) (Q : KE) : wAndV a b ρ Q = a ρ fun d _ ρ1 => Hold (∃ c, d = .bool c ∧ Hold ((c = true → b ρ1 Q) ∧ (c = false → Q (.bool false) false ρ1)) .mk) .mk := rfl
theorem wOrV_h (a b : WE) (ρ : Env) (Q : KE) : wOrV a b ρ Q = a ρ fun d _ ρ1 => Hold (∃ c, d = .bool c ∧ Hold ((c = true → Q (.bool true) false ρ1) ∧ (c = false → b ρ1 Q)) .mk) .mk := rfl
theorem wNotV_h (a : WE) (ρ : Env) (Q : KE) : wNotV a ρ Q = a ρ fun d _ ρ1 => Hold (∃ c, d = .bool c ∧ Q (.bool (!c)) false ρ1) .mk := rfl
theorem wIf_h (t : WT) (a b : WE) (ρ : Env) (Q : KE) : wIf t a b ρ Q = t ρ fun c ρ1 => Hold ((c = true → a ρ1 Q) ∧ (c = false → b ρ1 Q)) .mk := rfl
theorem wChain_h (o o' : O2) (a b c : WE) (ρ : Env) (Q : KE) : wChain o o' a b c ρ Q = a ρ fun d _ ρ1 => b ρ1 fun e _ ρ2 => o d e fun r _ => Hold (∃ k, r = .bool k ∧
  Hold ((k = true → c ρ2 fun g _ ρ3 => o' e g fun r' f' => Q r' f' ρ3) ∧ (k = false → Q (.bool false) false ρ2)) .mk) .mk := rfl
theorem wIfS_h (t : WT) (a b : WS) (P : Po) (ρ : Env) : wIfS t a b P ρ = t ρ fun c ρ1 => Hold ((c = true → a P ρ1) ∧ (c = false → b P ρ1)) .mk := rfl
theorem br_t (A B : Prop) : Hold ((true = true → A) ∧ (true = false → B)) .mk = A := by simp [Hold]
theorem br_f (A B : Prop) : Hold ((false = true → A) ∧ (false = false → B)) .mk = B := by simp [Hold]
theorem br_nt (A B : Prop) : Hold (((!true) = true → A) ∧ ((!true) = false → B)) .mk = B := by simp [Hold]
theorem br_nf (A B : Prop) : Hold (((!false) = true → A) ∧ ((!false) = false → B)) .mk = A := by simp [Hold]
theorem br {c : Prop} [Decidable c] {A B : Prop} (h : c → A) (h' : ¬ c → B) : Hold ((decide c = true → A) ∧ (decide c = false → B)) .mk :=
  ⟨fun x => h (of_decide_eq_true x), fun x => h' (of_decide_eq_false x)⟩
theorem brn {c : Prop} [Decidable c] {A B : Prop} (h : ¬ c → A) (h' : c → B) : Hold (((!decide c) = true → A) ∧ ((!decide c) = false → B)) .mk :=
  ⟨fun x => h (by simpa using x), fun x => h' (by simpa using x)⟩
theorem wNext_h (P : Po) (ρ : Env) : wNext P ρ = P.nx ρ := rfl
theorem wSeq_h (s t : WS) (P : Po) (ρ : Env) : wSeq s t P ρ = s { P with nx := t P } ρ := rfl
theorem wBreak_h (P : Po) (ρ : Env) : wBreak P ρ = P.bk ρ := rfl
theorem wCont_h (P : Po) (ρ : Env) : wCont P ρ = P.ct ρ := rfl
theorem wDrop_h (e : WE) (P : Po) (ρ : Env) : wDrop e P ρ = e ρ fun _ _ ρ1 => P.nx ρ1 := rfl
theorem wRet_h (e : WE) (P : Po) (ρ : Env) : wRet e P ρ = e ρ P.rt := rfl
def retK (ρ : Env) (i : Nat) (Q : KE) : Prop := match ρ[i]? with
  | some (some (.sh d)) => Q d false ρ
  | some (some (.ow d)) => Q d true (ρ.set i none)
  | _ => False
theorem wRetV_h (i : Nat) (P : Po) (ρ : Env) : wRetV i P ρ = retK ρ i P.rt := rfl
theorem retK_sh (d : D) (ρ : Env) (Q : KE) : retK (some (.sh d) :: ρ) 0 Q = Q d false (some (.sh d) :: ρ) := rfl
theorem retK_ow (d : D) (ρ : Env) (Q : KE) : retK (some (.ow d) :: ρ) 0 Q = Q d true (none :: ρ) := rfl
theorem retK_s (x : Option EV) (ρ : Env) (n : Nat) (Q : KE) : retK (x :: ρ) (n + 1) Q = retK ρ n fun d f ρ' => Q d f (x :: ρ') := by
  simp only [retK, List.getElem?_cons_succ, List.set_cons_succ]
theorem wRetN_h (P : Po) (ρ : Env) : wRetN P ρ = P.rt .none false ρ := rfl
theorem wNever_h (P : Po) (ρ : Env) : wNever P ρ = False := rfl
theorem wRaise_h (E : Exc → Prop) (x : Exc) (P : Po) (ρ : Env) : wRaise E x P ρ = E x := rfl
def gK (ρ : Env) (i : Nat) (d : D) (f : Bool) (Q : Env → Prop) : Prop := free ρ i ∧ Q (setE ρ i d f)
theorem gN_h (i : Nat) (d : D) (f : Bool) (ρ : Env) (Q : Env → Prop) : gN i d f ρ Q = gK ρ i d f Q := rfl
theorem gK_nt (d : D) (ρ : Env) (Q : Env → Prop) : gK (none :: ρ) 0 d true Q = Q (some (.ow d) :: ρ) := by simp [gK, free, setE]
theorem gK_nf (d : D) (ρ : Env) (Q : Env → Prop) : gK (none :: ρ) 0 d false Q = Q (some (.sh d) :: ρ) := by simp [gK, free, setE]
theorem gK_st (x d : D) (ρ : Env) (Q : Env → Prop) : gK (some (.sh x) :: ρ) 0 d true Q = Q (some (.ow d) :: ρ) := by simp [gK, free, setE]
theorem gK_sf (x d : D) (ρ : Env) (Q : Env → Prop) : gK (some (.sh x) :: ρ) 0 d false Q = Q (some (.sh d) :: ρ) := by simp [gK, free, setE]
theorem gK_ot (x d : D) (ρ : Env) (Q : Env → Prop) : gK (some (.ow x) :: ρ) 0 d true Q = Q (some (.ow d) :: ρ) := by simp [gK, free, setE]
theorem gK_of (x d : D) (ρ : Env) (Q : Env → Prop) : gK (some (.ow x) :: ρ) 0 d false Q = Q (some (.sh d) :: ρ) := by simp [gK, free, setE]
theorem gK_gt (o : Option D) (d : D) (ρ : Env) (Q : Env → Prop) : gK (Option.map EV.sh o :: ρ) 0 d true Q = Q (some (.ow d) :: ρ) := by cases o <;> simp [gK, free, setE]
theorem gK_gf (o : Option D) (d : D) (ρ : Env) (Q : Env → Prop) : gK (Option.map EV.sh o :: ρ) 0 d false Q = Q (some (.sh d) :: ρ) := by cases o <;> simp [gK, free, setE]
theorem gK_s (x : Option EV) (ρ : Env) (n : Nat) (d : D) (f : Bool) (Q : Env → Prop) : gK (x :: ρ) (n + 1) d f Q = gK ρ n d f fun ρ' => Q (x :: ρ') := by
  simp only [gK, free_s, setE, List.set_cons_succ]
theorem gNil_h (ds : List D) (ρ : Env) (Q : Env → Prop) : gNil ds ρ Q = (ds = [] ∧ Q ρ) := rfl
theorem gCons_h (g : WG) (r : WGs) (ds : List D) (ρ : Env) (Q : Env → Prop) : gCons g r ds ρ Q = Hold (∃ d t, ds = d :: t ∧ g d false ρ fun ρ1 => r t ρ1 Q) .mk := rfl
theorem gTup_h (n : Nat) (r : WGs) (d : D) (f : Bool) (ρ : Env) (Q : Env → Prop) : gTup n r d f ρ Q = Hold (∃ ds, d = .tuple ds ∧ ds.length = n ∧ r ds ρ Q) .mk := rfl
def ixK (ρ : Env) (x : Nat) (i : Int) (d : D) (K : Env → Prop) : Prop := ∃ xs j,
  ((ρ[x]? = some (some (.ow (.list xs))) ∧ ixD xs.length i = some j ∧ K (ρ.set x (some (.ow (.list (xs.set j d)))))) ∨
   (ρ[x]? = some (some (.bo (.list xs))) ∧ ixD xs.length i = some j ∧ K (ρ.set x (some (.bo (.list (xs.set j d)))))))
theorem gIx_h (x : Nat) (e : WE) (d : D) (f : Bool) (ρ : Env) (Q : Env → Prop) : gIx x e d f ρ Q = sureK ρ x (e ρ fun di _ ρ1 => Hold (∃ i, di = .int i ∧ ixK ρ1 x i d Q) .mk) := by
  unfold gIx ixK sureK Hold
  congr 1
  congr 1
  funext di _ ρ1
  apply propext
  constructor
  · rintro ⟨xs, i, j, h, h'⟩
    exact ⟨i, h, xs, j, h'⟩
  · rintro ⟨i, h, xs, j, h'⟩
    exact ⟨xs, i, j, h, h'⟩
theorem ixK_s (x : Option EV) (ρ : Env) (n : Nat) (i : Int) (d : D) (K : Env → Prop) : ixK (x :: ρ) (n + 1) i d K = ixK ρ n i d fun ρ' => K (x :: ρ') := by
  simp only [ixK, List.getElem?_cons_succ, List.set_cons_succ]
theorem ixK_ow (xs : List D) (ρ : Env) (i : Int) (d : D) (K : Env → Prop) : ixK (some (.ow (.list xs)) :: ρ) 0 i d K = Hold (∃ j, ixD xs.length i = some j ∧ K (some (.ow (.list (xs.set j d))) :: ρ)) .mk := by
  simp only [Hold, ixK, List.getElem?_cons_zero, List.set_cons_zero, Option.some.injEq, EV.ow.injEq, PyData.list.injEq, reduceCtorEq, false_and, or_false]
  apply propext
  constructor
  · rintro ⟨_, j, rfl, h⟩
    exact ⟨j, h⟩
  · rintro ⟨j, h⟩
    exact ⟨_, j, rfl, h⟩
theorem ixK_bo (xs : List D) (ρ : Env) (i : Int) (d : D) (K : Env → Prop) : ixK (some (.bo (.list xs)) :: ρ) 0 i d K = Hold (∃ j, ixD xs.length i = some j ∧ K (some (.bo (.list (xs.set j d))) :: ρ)) .mk := by
  simp only [Hold, ixK, List.getElem?_cons_zero, List.set_cons_zero, Option.some.injEq, EV.bo.injEq, PyData.list.injEq, reduceCtorEq, false_and, false_or]
  apply propext
  constructor
  · rintro ⟨_, j, rfl, h⟩
    exact ⟨j, h⟩
  · rintro ⟨j, h⟩
    exact ⟨_, j, rfl, h⟩
theorem exIx0 (n : Nat) (p : Nat → Prop) : Hold (∃ j, ixD (n + 1) 0 = some j ∧ p j) .mk = p 0 := by simp [Hold, ixD0]
theorem exIx1 (n : Nat) (p : Nat → Prop) : Hold (∃ j, ixD (n + 1 + 1) 1 = some j ∧ p j) .mk = p 1 := by simp [Hold, ixD1]
theorem wAsg_h (e : WE) (g : WG) (P : Po) (ρ : Env) : wAsg e g P ρ = e ρ fun d f ρ1 => g d f ρ1 P.nx := rfl
theorem wPar_h (i j : Nat) (a b : WE) (P : Po) (ρ : Env) : wPar i j a b P ρ = a ρ fun d _ ρ1 => b ρ1 fun e _ ρ2 => gK ρ2 i d false fun ρ3 => gK ρ3 j e false P.nx := by
  unfold wPar gK
  congr 1
  funext d _ ρ1
  congr 1
  funext e _ ρ2
  apply propext
  by_cases hij : i = j
  · subst hij
    constructor
    · rintro ⟨h1, h2, h3⟩
      refine ⟨h1, ?_, h3⟩
      unfold free at h1 ⊢
      unfold setE
      by_cases hl : i < ρ2.length
      · simp [hl]
      · rw [List.getElem?_eq_none (by omega)] at h1
        exact h1.elim
    · rintro ⟨h1, h2, h3⟩
      exact ⟨h1, h1, h3⟩
  · have e1 : free (setE ρ2 i d false) j = free ρ2 j := by
      unfold free setE
      rw [List.getElem?_set_ne hij]
    show _ ↔ free ρ2 i ∧ free (setE ρ2 i d false) j ∧ _
    rw [e1]
def appK (ρ : Env) (x : Nat) (d : D) (K : Env → Prop) : Prop := ∃ xs, xs.length < LIM ∧
  ((ρ[x]? = some (some (.ow (.list xs))) ∧ K (ρ.set x (some (.ow (.list (xs ++ [d])))))) ∨
   (ρ[x]? = some (some (.bo (.list xs))) ∧ K (ρ.set x (some (.bo (.list (xs ++ [d])))))))
theorem isL_ow (xs : List D) (ρ : Env) : isL (some (.ow (.list xs)) :: ρ) 0 = True := rfl
theorem isL_bo (xs : List D) (ρ : Env) : isL (some (.bo (.list xs)) :: ρ) 0 = True := rfl
theorem isL_s (x : Option EV) (ρ : Env) (n : Nat) : isL (x :: ρ) (n + 1) = isL ρ n := rfl
def sureL (ρ : Env) (i : Nat) (p : Prop) : Prop := isL ρ i ∧ p
theorem sureL_ow (xs : List D) (ρ : Env) (p : Prop) : sureL (some (.ow (.list xs)) :: ρ) 0 p = p := by simp [sureL, isL_ow]
theorem sureL_bo (xs : List D) (ρ : Env) (p : Prop) : sureL (some (.bo (.list xs)) :: ρ) 0 p = p := by simp [sureL, isL_bo]
theorem sureL_s (x : Option EV) (ρ : Env) (n : Nat) (p : Prop) : sureL (x :: ρ) (n + 1) p = sureL ρ n p := rfl
theorem wApp_h (x : Nat) (e : WE) (P : Po) (ρ : Env) : wApp x e P ρ = sureL ρ x (e ρ fun d _ ρ1 => appK ρ1 x d P.nx) := rfl
theorem appK_s (x : Option EV) (ρ : Env) (n : Nat) (d : D) (K : Env → Prop) : appK (x :: ρ) (n + 1) d K = appK ρ n d fun ρ' => K (x :: ρ') := by
  simp only [appK, List.getElem?_cons_succ, List.set_cons_succ]
theorem appK_ow (xs : List D) (ρ : Env) (d : D) (K : Env → Prop) : appK (some (.ow (.list xs)) :: ρ) 0 d K = (xs.length < LIM ∧ K (some (.ow (.list (xs ++ [d]))) :: ρ)) := by
  simp only [appK, List.getElem?_cons_zero, List.set_cons_zero, Option.some.injEq, EV.ow.injEq, PyData.list.injEq, reduceCtorEq, false_and, or_false]
  apply propext
  constructor
  · rintro ⟨_, l, rfl, h⟩
    exact ⟨l, h⟩
  · rintro ⟨l, h⟩
    exact ⟨_, l, rfl, h⟩
theorem appK_bo (xs : List D) (ρ : Env) (d : D) (K : Env → Prop) : appK (some (.bo (.list xs)) :: ρ) 0 d K = (xs.length < LIM ∧ K (some (.bo (.list (xs ++ [d]))) :: ρ)) := by
  simp only [appK, List.getElem?_cons_zero, List.set_cons_zero, Option.some.injEq, EV.bo.injEq, PyData.list.injEq, reduceCtorEq, false_and, false_or]
  apply propext
  constructor
  · rintro ⟨_, l, rfl, h⟩
    exact ⟨l, h⟩
  · rintro ⟨l, h⟩
    exact ⟨_, l, rfl, h⟩
theorem wFor_h (it : WI) (g : WG) (body : WS) (P : Po) (ρ : Env) : wFor it g body P ρ = it ρ fun xs ρ1 => Hold (forGo g body P xs ρ1) .mk := rfl
theorem itS_h (e : WE) (ρ : Env) (Q : List D → Env → Prop) : itS e ρ Q = e ρ fun d _ ρ1 => Hold (∃ xs, (d = .list xs ∨ d = .tuple xs) ∧ Q xs ρ1) .mk := rfl
theorem itR1_h (e : WE) (ρ : Env) (Q : List D → Env → Prop) : itR1 e ρ Q = e ρ fun d _ ρ1 => Hold (∃ n : Int, d = .int n ∧ inR n ∧ Q (rangeL 0 n.toNat) ρ1) .mk := by
  unfold itR1 inR Hold
  simp only [and_assoc]
theorem itR2_h (a b : WE) (ρ : Env) (Q : List D → Env → Prop) : itR2 a b ρ Q = a ρ fun d _ ρ1 => b ρ1 fun e _ ρ2 => Hold (∃ m : Int, d = .int m ∧ Hold (∃ n : Int, e = .int n ∧ inR m ∧ inR n ∧ Q (rangeL m (n - m).toNat) ρ2) .mk) .mk := by
  unfold itR2 inR Hold
  congr 1
  funext d _ ρ1
  congr 1
  funext e _ ρ2
  apply propext
  constructor
  · rintro ⟨m, n, h1, h2, h3, h4⟩
    exact ⟨m, h1, n, h2, ⟨h3.1, h3.2.1⟩, ⟨h3.2.2.1, h3.2.2.2⟩, h4⟩
  · rintro ⟨m, h1, n, h2, h3, h4, h5⟩
    exact ⟨m, n, h1, h2, ⟨h3.1, h3.2, h4.1, h4.2⟩, h5⟩
theorem itZ_h (a b : WE) (ρ : Env) (Q : List D → Env → Prop) : itZ a b ρ Q = a ρ fun d _ ρ1 => b ρ1 fun e _ ρ2 => Hold (∃ xs ys, ((d = .list xs ∧ e = .list ys) ∨ (d = .tuple xs ∧ e = .tuple ys)) ∧ Q (zipD xs ys) ρ2) .mk := rfl
theorem exZL (x y : List D) (p : List D → List D → Prop) : Hold (∃ b c, ((PyData.list x = .list b ∧ PyData.list y = .list c) ∨ (PyData.list x = .tuple b ∧ PyData.list y = .tuple c)) ∧ p b c) .mk = p x y := by
  unfold Hold
  apply propext
  constructor
  · rintro ⟨b, c, ⟨h1, h2⟩ | ⟨h1, _⟩, h⟩
    · cases h1; cases h2; exact h
    · cases h1
  · exact fun h => ⟨x, y, .inl ⟨rfl, rfl⟩, h⟩
theorem tYes_h (ρ : Env) (Q : Bool → Env → Prop) : tYes ρ Q = Q true ρ := rfl
theorem frees_nil (ρ : Env) : frees ρ [] = True := rfl
theorem frees_cons (ρ : Env) (v : Nat) (vs : List Nat) : frees ρ (v :: vs) = (free ρ v ∧ frees ρ vs) := rfl
theorem wipe_nil (ρ : Env) : wipeE ρ [] = ρ := rfl
theorem wipe_cons (ρ : Env) (v : Nat) (vs : List Nat) : wipeE ρ (v :: vs) = (wipeE ρ vs).set v none := rfl
theorem back_nil (ρ0 ρ : Env) : backE ρ0 ρ [] = ρ := rfl
theorem back_cons (ρ0 ρ : Env) (v : Nat) (vs : List Nat) : backE ρ0 ρ (v :: vs) = (backE ρ0 ρ vs).set v (getE ρ0 v) := rfl
theorem getE_0 (x : Option EV) (ρ : Env) : getE (x :: ρ) 0 = x := rfl
theorem getE_s (x : Option EV) (ρ : Env) (n : Nat) : getE (x :: ρ) (n + 1) = getE ρ n := rfl
def putK (ρ : Env) (v : Nat) (e : Option EV) (k : Env → Prop) : Prop := k (ρ.set v e)
theorem putK_0 (x e : Option EV) (ρ : Env) (k : Env → Prop) : putK (x :: ρ) 0 e k = k (e :: ρ) := rfl
theorem putK_s (x e : Option EV) (ρ : Env) (n : Nat) (k : Env → Prop) : putK (x :: ρ) (n + 1) e k = putK ρ n e fun ρ' => k (x :: ρ') := rfl
def getK (ρ : Env) (v : Nat) (k : Option EV → Prop) : Prop := k (getE ρ v)
theorem getK_0 (x : Option EV) (ρ : Env) (k : Option EV → Prop) : getK (x :: ρ) 0 k = k x := rfl
theorem getK_s (x : Option EV) (ρ : Env) (n : Nat) (k : Option EV → Prop) : getK (x :: ρ) (n + 1) k = getK ρ n k := rfl
def backK (ρ0 ρ : Env) (vs : List Nat) (k : Env → Prop) : Prop := k (backE ρ0 ρ vs)
theorem backK_nil (ρ0 ρ : Env) (k : Env → Prop) : backK ρ0 ρ [] k = k ρ := rfl
theorem backK_cons (ρ0 ρ : Env) (v : Nat) (vs : List Nat) (k : Env → Prop) : backK ρ0 ρ (v :: vs) k = backK ρ0 ρ vs fun ρ' => getK ρ0 v fun e => putK ρ' v e k := rfl
def wipeK (ρ : Env) (vs : List Nat) (k : Env → Prop) : Prop := k (wipeE ρ vs)
theorem wipeK_nil (ρ : Env) (k : Env → Prop) : wipeK ρ [] k = k ρ := rfl
theorem wipeK_cons (ρ : Env) (v : Nat) (vs : List Nat) (k : Env → Prop) : wipeK ρ (v :: vs) k = wipeK ρ vs fun ρ' => putK ρ' v none k := rfl
theorem wLc_h (it : WI) (g : WG) (t : WT) (e : WE) (vs : List Nat) (ρ : Env) (Q : KE) : wLc it g t e vs ρ Q = it ρ fun xs ρ1 => shortL xs ∧ frees ρ1 vs ∧
  wipeK ρ1 vs fun ρ0 => Hold (lcGo g t e vs (fun acc ρ2 => backK ρ1 ρ2 vs fun ρ3 => Q (.list acc) true ρ3) xs [] ρ0) .mk := rfl
theorem wSl_h (a : WE) (lo hi : WP) (ρ : Env) (Q : KE) : wSl a lo hi ρ Q = a ρ fun d _ ρ1 => lo ρ1 fun l ρ2 => hi ρ2 fun h ρ3 => oCut l h d fun r f => Q r f ρ3 := rfl
theorem pN_h (ρ : Env) (Q : Option Int → Env → Prop) : pN ρ Q = Q none ρ := rfl
theorem pS_h (e : WE) (ρ : Env) (Q : Option Int → Env → Prop) : pS e ρ Q = e ρ fun d _ ρ1 => Hold (∃ i, d = .int i ∧ Q (some i) ρ1) .mk := rfl
theorem wFs_h (es : List WE) (ρ : Env) (Q : KE) : wFs es ρ Q = fsGo es Str.empty ρ fun z ρ1 => Q (.str z) false ρ1 := rfl
theorem fs_nil (acc : Str) (ρ : Env) (Q : Str → Env → Prop) : fsGo [] acc ρ Q = Q acc ρ := rfl
theorem fs_cons (e : WE) (es : List WE) (acc : Str) (ρ : Env) (Q : Str → Env → Prop) : fsGo (e :: es) acc ρ Q = e ρ fun d _ ρ1 => Hold (∃ y : Str, d = .str y ∧ (acc ++ y).length ≤ LIM ∧ fsGo es (acc ++ y) ρ1 Q) .mk := rfl
/-! operations -/
theorem oAdd_i (i j : Int) (Q : D → Bool → Prop) : oAdd (.int i) (.int j) Q = Q (.int (i + j)) false := rfl
theorem oAdd_s (i j : Str) (Q : D → Bool → Prop) : oAdd (.str i) (.str j) Q = (i.length + j.length ≤ LIM ∧ Q (.str (i ++ j)) false) := rfl
theorem oAdd_l (i j : List D) (Q : D → Bool → Prop) : oAdd (.list i) (.list j) Q = (i.length + j.length ≤ LIM ∧ Q (.list (i ++ j)) true) := rfl
theorem oAdd_t (i j : List D) (Q : D → Bool → Prop) : oAdd (.tuple i) (.tuple j) Q = (i.length + j.length ≤ LIM ∧ Q (.tuple (i ++ j)) false) := rfl
theorem oSub_i (i j : Int) (Q : D → Bool → Prop) : oSub (.int i) (.int j) Q = Q (.int (i - j)) false := rfl
theorem oMul_i (i j : Int) (Q : D → Bool → Prop) : oMul (.int i) (.int j) Q = (mulOk i j ∧ Q (.int (i * j)) false) := rfl
theorem oMul_l (xs : List D) (k : Int) (Q : D → Bool → Prop) : oMul (.list xs) (.int k) Q = (repOk xs k ∧ Q (.list (List.replicate k.toNat xs).flatten) true) := by
  unfold oMul repOk
  simp only [and_assoc]
theorem oFdiv_i (i j : Int) (Q : D → Bool → Prop) : oFdiv (.int i) (.int j) Q = (fdivOk j ∧ Q (.int (i.fdiv j)) false) := by
  unfold oFdiv fdivOk
  simp only [and_assoc]
theorem oMod_i (i j : Int) (Q : D → Bool → Prop) : oMod (.int i) (.int j) Q = (j ≠ 0 ∧ Q (.int (i.fmod j)) false) := rfl
theorem oPow_i (i j : Int) (Q : D → Bool → Prop) : oPow (.int i) (.int j) Q = (powOk i j ∧ Q (.int (i ^ j.toNat)) false) := rfl
theorem oNeg_i (i : Int) (Q : D → Bool → Prop) : oNeg (.int i) Q = Q (.int (-i)) false := rfl
theorem oEq_h (d e : D) (Q : D → Bool → Prop) : oEq d e Q = (tame d ∧ tame e ∧ Q (.bool (PyData.eqv d e)) false) := rfl
theorem oNe_h (d e : D) (Q : D → Bool → Prop) : oNe d e Q = (tame d ∧ tame e ∧ Q (.bool (!PyData.eqv d e)) false) := rfl
theorem oEq_i (i j : Int) (Q : D → Bool → Prop) : oEq (.int i) (.int j) Q = Q (.bool (decide (i = j))) false := by
  simp only [oEq, tame_int, true_and, eqv_int]
theorem oNe_i (i j : Int) (Q : D → Bool → Prop) : oNe (.int i) (.int j) Q = Q (.bool (!decide (i = j))) false := by
  simp only [oNe, tame_int, true_and, eqv_int]
theorem oLt_i (i j : Int) (Q : D → Bool → Prop) : oLt (.int i) (.int j) Q = Q (.bool (decide (i < j))) false := rfl
theorem oLe_i (i j : Int) (Q : D → Bool → Prop) : oLe (.int i) (.int j) Q = Q (.bool (decide (i ≤ j))) false := rfl
theorem oGt_i (i j : Int) (Q : D → Bool → Prop) : oGt (.int i) (.int j) Q = Q (.bool (decide (j < i))) false := rfl
theorem oGe_i (i j : Int) (Q : D → Bool → Prop) : oGe (.int i) (.int j) Q = Q (.bool (decide (j ≤ i))) false := rfl
theorem oIx_l (xs : List D) (i : Int) (Q : D → Bool → Prop) : oIx (.list xs) (.int i) Q = Hold (∃ x, atD xs i = some x ∧ Q x false) .mk := rfl
theorem oIx_t (xs : List D) (i : Int) (Q : D → Bool → Prop) : oIx (.tuple xs) (.int i) Q = Hold (∃ x, atD xs i = some x ∧ Q x false) .mk := rfl
theorem oLen_l (xs : List D) (Q : D → Bool → Prop) : oLen (.list xs) Q = Q (.int xs.length) false := rfl
theorem oLen_t (xs : List D) (Q : D → Bool → Prop) : oLen (.tuple xs) Q = Q (.int xs.length) false := rfl
theorem oLen_scr (xs : List D) (Q : D → Bool → Prop) : oLen (scrD xs) Q = Q (.int xs.length) false := rfl
theorem oAbs_i (i : Int) (Q : D → Bool → Prop) : oAbs (.int i) Q = Q (.int (if i < 0 then -i else i)) false := rfl
theorem oInt_i (i : Int) (Q : D → Bool → Prop) : oInt (.int i) Q = Q (.int i) false := rfl
theorem oInt_b (b : Bool) (Q : D → Bool → Prop) : oInt (.bool b) Q = Q (.int (if b then 1 else 0)) false := rfl
theorem oMax2_i (i j : Int) (Q : D → Bool → Prop) : oMax2 (.int i) (.int j) Q = Q (.int (if j > i then j else i)) false := rfl
theorem oMin2_i (i j : Int) (Q : D → Bool → Prop) : oMin2 (.int i) (.int j) Q = Q (.int (if j < i then j else i)) false := rfl
theorem oStr_i (i : Int) (Q : D → Bool → Prop) : oStr (.int i) Q = (shOk i ∧ Q (.str (txt i)) false) := rfl
theorem oStr_s (x : Str) (Q : D → Bool → Prop) : oStr (.str x) Q = Q (.str x) false := rfl
theorem oFmt_i (i : Int) (Q : D → Bool → Prop) : oFmt (.int i) Q = (shOk i ∧ Q (.str (txt i)) false) := rfl
theorem oFmt_s (x : Str) (Q : D → Bool → Prop) : oFmt (.str x) Q = (x.length ≤ LIM ∧ Q (.str x) false) := rfl
theorem oCut_l (lo hi : Option Int) (xs : List D) (Q : D → Bool → Prop) : oCut lo hi (.list xs) Q = Q (.list (cutD xs lo hi)) true := rfl
theorem oCut_t (lo hi : Option Int) (xs : List D) (Q : D → Bool → Prop) : oCut lo hi (.tuple xs) Q = Q (.tuple (cutD xs lo hi)) false := rfl
theorem oCut_scr (lo hi : Option Int) (xs : List D) (Q : D → Bool → Prop) : oCut lo hi (scrD xs) Q = Q (.list (cutD xs lo hi)) true := rfl
theorem startE_nil (bs : List Bool) (n : Nat) : startE bs [] n = List.replicate n none := rfl
theorem startE_f (bs : List Bool) (d : D) (ds : List D) (n : Nat) : startE (false :: bs) (d :: ds) n = some (.sh d) :: startE bs ds n := rfl
theorem startE_t (bs : List Bool) (d : D) (ds : List D) (n : Nat) : startE (true :: bs) (d :: ds) n = some (.bo d) :: startE bs ds n := rfl
theorem shortK_nil (p : Prop) : shortK [] p = p := by simp [shortK, shortL, LIM]
theorem shortK_c1 (a : D) (p : Prop) : shortK [a] p = p := by simp [shortK, shortL, LIM]
theorem shortK_c2 (a b : D) (p : Prop) : shortK [a, b] p = p := by simp [shortK, shortL, LIM]
theorem shortK_c3 (a b c : D) (p : Prop) : shortK [a, b, c] p = p := by simp [shortK, shortL, LIM]
theorem shortK_c4 (a b c d : D) (p : Prop) : shortK [a, b, c, d] p = p := by simp [shortK, shortL, LIM]
theorem shortK_c5 (a b c d e : D) (p : Prop) : shortK [a, b, c, d, e] p = p := by simp [shortK, shortL, LIM]
theorem shortK_c6 (a b c d e f : D) (p : Prop) : shortK [a, b, c, d, e, f] p = p := by simp [shortK, shortL, LIM]
/-- a slot that holds nothing, or data nobody looks at -/
abbrev gb (o : Option D) : Option EV := o.map EV.sh
theorem free_g (o : Option D) (ρ : Env) : free (Option.map EV.sh o :: ρ) 0 = True := by cases o <;> rfl
theorem lent_g (o : Option D) (ρ : Env) : lent (Option.map EV.sh o :: ρ) = lent ρ := by cases o <;> rfl
theorem mem_cut {xs : List D} {lo hi : Option Int} {x : D} (h : x ∈ cutD xs lo hi) : x ∈ xs := List.mem_of_mem_drop (List.mem_of_mem_take h)
theorem atD_mem {α : Type} {xs : List α} {i : Int} (h0 : 0 ≤ i) (h1 : i < xs.length) : ∃ x ∈ xs, atD xs i = some x := by
  obtain ⟨k, rfl⟩ := Int.eq_ofNat_of_zero_le h0
  rw [atD_nat]
  have hk : k < xs.length := by omega
  exact ⟨xs[k], List.getElem_mem hk, List.getElem?_eq_getElem hk⟩
def reprOk (xs : List D) : Prop := tame (.list xs) ∧ PyData.showable (.list xs) = true ∧ (PyData.shown (.list xs)).length ≤ LIM
theorem oRepr_l (xs : List D) (Q : D → Bool → Prop) : oRepr (.list xs) Q = (reprOk xs ∧ Q (.str (PyData.shown (.list xs))) false) := rfl
theorem oEq_s (x y : Str) (Q : D → Bool → Prop) : oEq (.str x) (.str y) Q = Q (.bool (PyData.eqv (.str x) (.str y))) false := by
  simp only [oEq, tame_str, true_and]
theorem oNe_s (x y : Str) (Q : D → Bool → Prop) : oNe (.str x) (.str y) Q = Q (.bool (!PyData.eqv (.str x) (.str y))) false := by
  simp only [oNe, tame_str, true_and]
end Dl
/-! K01c: what the defs of the law promise. -/
namespace K01
open PySem Dl
def enc (p : Int × Int) : D := .tuple [.int p.1, .int p.2]
def gg (t b : Int) : Int := if b < 0 then 0 - (Int.gcd t b : Int) else (Int.gcd t b : Int)
def rat (t b : Int) : Int × Int := (t.fdiv (gg t b), b.fdiv (gg t b))
def plus (p q : Int × Int) : Int × Int := rat (p.1 * q.2 + q.1 * p.2) (p.2 * q.2)
def mul (p q : Int × Int) : Int × Int := rat (p.1 * q.1) (p.2 * q.2)
def lessP (p q : Int × Int) : Bool := decide (p.1 * q.2 < q.1 * p.2)
/-- a ratio of size n -/
def Rz (n : Nat) (p : Int × Int) : Prop := p.1.natAbs < 2 ^ n ∧ 0 < p.2 ∧ p.2 < 2 ^ n ∧ Int.gcd p.1 p.2 = 1
/-- the state of a law's drawing, good for b more draws -/
def stD (ns : List Int) (c : Int) : D := .list [.list (ns.map PyData.int), .int c]
def StB (b : Nat) (d : D) : Prop := ∃ (ns : List Int) (c : Int), d = stD ns c ∧ ns ≠ [] ∧ ns.length ≤ 10000 ∧ (∀ n ∈ ns, 0 ≤ n ∧ n < 1009) ∧ 0 ≤ c ∧ c + b ≤ 1000000000
def C__law_stream : Con := fun ds Q _ => ∃ ns : List Int, ds = [scrD (ns.map PyData.int)] ∧ ns.length ≤ 63 ∧
  ∀ ms : List Int, ms ≠ [] → ms.length ≤ 10000 → (∀ m ∈ ms, 0 ≤ m ∧ m < 1009) → Q (.list (ms.map PyData.int)) true []
def C__law_next : Con := fun ds Q _ => ∃ (b : Nat) (d : D) (many : Int), ds = [d, .int many] ∧ StB (b + 1) d ∧ 0 < many ∧ ∀ d' r, StB b d' → 0 ≤ r → r < many → Q (.int r) false [d']
def C__law_divisor : Con := fun ds Q _ => ∃ a b : Int, ds = [.int a, .int b] ∧ Q (.int (Int.gcd a b)) false []
def C_divisor : Con := C__law_divisor
def C__law_ratio : Con := fun ds Q _ => ∃ a b : Int, ds = [.int a, .int b] ∧ b ≠ 0 ∧ b.natAbs < 2 ^ 1000 ∧ Q (enc (rat a b)) false []
def C_ratio : Con := C__law_ratio
def C__law_drawn : Con := fun ds Q _ => ∃ (b : Nat) (d : D), ds = [d] ∧ StB (b + 3) d ∧ ∀ d' p, StB b d' → Rz 30 p → Q (enc p) false [d']
/-- data that shows in at most n signs, no deeper than k -/
def Sd (k n : Nat) (d : D) : Prop := d.plain = true ∧ d.depth ≤ k ∧ d.showable = true ∧ d.shown.length ≤ n
def C__law_same : Con := fun ds Q _ => ∃ a, ds = [a, a] ∧ Sd 40 1000000 a ∧ Q (.bool true) false []
def C_is_ratio : Con := fun ds Q _ => ∃ p : Int × Int, ds = [enc p] ∧ Q (.bool (decide (1 ≤ p.2) && decide (Int.gcd p.1 p.2 = 1))) false []
def C__law_less : Con := fun ds Q _ => ∃ p q : Int × Int, ds = [enc p, enc q] ∧ Rz 2000 p ∧ Rz 2000 q ∧ Q (.bool (lessP p q)) false []
def C_less : Con := C__law_less
def C__law_plus : Con := fun ds Q _ => ∃ p q : Int × Int, ds = [enc p, enc q] ∧ Rz 400 p ∧ Rz 400 q ∧ Q (enc (plus p q)) false []
def C_added : Con := C__law_plus
def C_times : Con := fun ds Q _ => ∃ p q : Int × Int, ds = [enc p, enc q] ∧ Rz 400 p ∧ Rz 400 q ∧ Q (enc (mul p q)) false []
def C_negative : Con := fun ds Q _ => ∃ p : Int × Int, ds = [enc p] ∧ Q (enc (0 - p.1, p.2)) false []
def C_over : Con := fun ds Q _ => ∃ p q : Int × Int, ds = [enc p, enc q] ∧ Rz 400 p ∧ Rz 400 q ∧ q.1 ≠ 0 ∧ Q (enc (rat (p.1 * q.2) (p.2 * q.1))) false []
def C__law_sum : Con := fun ds Q _ => ∃ ps : List (Int × Int), ds = [.list (ps.map enc)] ∧ ps.length ≤ 5 ∧ (∀ p ∈ ps, Rz 70 p) ∧ Q (enc (ps.foldl plus (0, 1))) false []
def C_summed : Con := C__law_sum
def C_weighed : Con := fun ds Q _ => ∃ ps qs : List (Int × Int), ds = [.list (ps.map enc), .list (qs.map enc)] ∧ ps.length = qs.length ∧ ps.length ≤ 5 ∧ (∀ p ∈ ps, Rz 30 p) ∧ (∀ q ∈ qs, Rz 30 q) ∧
  Q (enc ((List.zipWith mul ps qs).foldl plus (0, 1))) false []
def C_greatest : Con := fun ds Q _ => ∃ (p : Int × Int) (ps : List (Int × Int)), ds = [.list ((p :: ps).map enc)] ∧ (∀ q ∈ p :: ps, Rz 2000 q) ∧ Q (enc (ps.foldl (fun a b => if lessP a b then b else a) p)) false []
def C_ratio_text : Con := fun ds Q _ => ∃ p : Int × Int, ds = [enc p] ∧ Rz 1000 p ∧ Q (.str (if p.2 = 1 then txt p.1 else txt p.1 ++ Str.ofString "/" ++ txt p.2)) false []
def C_law : Con := lawC fun ns => ns.length ≤ 63 ∧ ∀ z ∈ ns, Builtin.Int.intBits z ≤ 1048576
end K01
set_option maxRecDepth 100000
/-! K01w: the readings of the defs, printed by gen.py. -/
namespace K01
open PySem Dl
/-- _law_stream(script): 0=script 1=numbers 2=cell 3=rest 4=k 5=stirred -/
def wf__law_stream (E : Exc → Prop) : WS :=
    (wSeq (wAsg (wLst wNil) (gN 1))
    (wSeq (wFor (itS (wSl (wV 0) pN (pS (wC (.int 63))))) (gN 2) (wSeq (wAsg (wO oAbs (wO oInt (wV 2))) (gN 3))
    (wIfS (wTv (wB oGe (wV 3) (wB oPow (wC (.int 10)) (wC (.int 18))))) (wFor (itR1 (wC (.int 60))) (gN 4) (wSeq (wApp 1 (wB oMod (wO oInt (wV 3)) (wC (.int 1009))))
    (wSeq (wAsg (wB oFdiv (wV 3) (wC (.int 1009))) (gN 3))
    (wIfS (wTv (wB oEq (wV 3) (wC (.int 0)))) wBreak wNext)))) (wSeq (wAsg (wB oMod (wO oInt (wV 3)) (wC (.int 2147483647))) (gN 5))
    (wFor (itR1 (wC (.int 10))) (gN 4) (wSeq (wAsg (wB oMod (wO oInt (wB oAdd (wB oAdd (wB oMul (wV 5) (wC (.int 48271))) (wB oMul (wC (.int 7)) (wV 4))) (wC (.int 11)))) (wC (.int 2147483647))) (gN 5))
    (wApp 1 (wB oMod (wB oMod (wO oInt (wB oAdd (wB oMul (wV 5) (wC (.int 69621))) (wV 4))) (wC (.int 2147483629))) (wC (.int 1009))))))))))
    (wSeq (wIfS (wTv (wB oEq (wOP oLen 1) (wC (.int 0)))) (wApp 1 (wC (.int 0))) wNext)
    (wRetV 1))))
/-- _law_next(state, many): 0=state 1=many 2=turn -/
def wf__law_next (E : Exc → Prop) : WS :=
    (wSeq (wAsg (wB oAdd (wBL oIx 0 (wC (.int 1))) (wC (.int 1))) (gIx 0 (wC (.int 1))))
    (wSeq (wAsg (wB oFdiv (wBL oIx 0 (wC (.int 1))) (wO oLen (wBL oIx 0 (wC (.int 0))))) (gN 2))
    (wRet (wB oMod (wO oInt (wB oAdd (wB oAdd (wB oIx (wBL oIx 0 (wC (.int 0))) (wB oMod (wBL oIx 0 (wC (.int 1))) (wO oLen (wBL oIx 0 (wC (.int 0)))))) (wB oMul (wV 2) (wC (.int 389)))) (wB oMul (wB oMul (wBL oIx 0 (wC (.int 1))) (wV 2)) (wC (.int 17))))) (wV 1)))))
/-- _law_divisor(first, second): 0=first 1=second -/
def wf__law_divisor (E : Exc → Prop) : WS :=
    (wSeq (wAsg (wB oMax2 (wV 0) (wB oSub (wC (.int 0)) (wV 0))) (gN 0))
    (wSeq (wAsg (wB oMax2 (wV 1) (wB oSub (wC (.int 0)) (wV 1))) (gN 1))
    (wSeq (wWhile (wTv (wB oGt (wV 1) (wC (.int 0)))) (wPar 0 1 (wV 1) (wB oMod (wO oInt (wV 0)) (wV 1))))
    (wRetV 0))))
/-- _law_ratio(top, below): 0=top 1=below 2=common -/
def wf__law_ratio (E : Exc → Prop) : WS :=
    (wSeq (wAsg (wCall C__law_divisor E (wCons (wV 0) (wCons (wV 1) wNil))) (gN 2))
    (wSeq (wIfS (wTv (wB oLt (wV 1) (wC (.int 0)))) (wAsg (wB oSub (wC (.int 0)) (wV 2)) (gN 2)) wNext)
    (wRet (wTup (wCons (wB oFdiv (wV 0) (wV 2)) (wCons (wB oFdiv (wV 1) (wV 2)) wNil))))))
/-- _law_drawn(state): 0=state 1=top -/
def wf__law_drawn (E : Exc → Prop) : WS :=
    (wSeq (wAsg (wB oSub (wCallB C__law_next E 0 (wCons (wC (.int 400)) wNil)) (wC (.int 200))) (gN 1))
    (wRet (wCall C__law_ratio E (wCons (wB oMul (wV 1) (wB oIx (wLst (wCons (wC (.int 1)) (wCons (wB oPow (wC (.int 10)) (wC (.int 6))) wNil))) (wO oInt (wB oEq (wCallB C__law_next E 0 (wCons (wC (.int 5)) wNil)) (wC (.int 0)))))) (wCons (wB oAdd (wC (.int 1)) (wCallB C__law_next E 0 (wCons (wC (.int 60)) wNil))) wNil)))))
/-- _law_same(told, due): 0=told 1=due -/
def wf__law_same (E : Exc → Prop) : WS :=
    (wRet (wB oEq (wO oRepr (wLst (wCons (wV 0) wNil))) (wO oRepr (wLst (wCons (wV 1) wNil)))))
/-- divisor(first, second): 0=first 1=second -/
def wf_divisor (E : Exc → Prop) : WS :=
    (wSeq (wPar 0 1 (wO oAbs (wV 0)) (wO oAbs (wV 1)))
    (wSeq (wWhile (wTv (wB oGt (wV 1) (wC (.int 0)))) (wPar 0 1 (wV 1) (wB oMod (wV 0) (wV 1))))
    (wRetV 0)))
/-- is_ratio(value): 0=value -/
def wf_is_ratio (E : Exc → Prop) : WS :=
    (wRet (wAndV (wB oEq (wOP oLen 0) (wC (.int 2))) (wAndV (wB oGe (wBL oIx 0 (wC (.int 1))) (wC (.int 1))) (wB oEq (wCall C_divisor E (wCons (wBL oIx 0 (wC (.int 0))) (wCons (wBL oIx 0 (wC (.int 1))) wNil))) (wC (.int 1))))))
/-- ratio(top, below): 0=top 1=below 2=common -/
def wf_ratio (E : Exc → Prop) : WS :=
    (wSeq (wIfS (wTv (wB oEq (wV 1) (wC (.int 0)))) wNever wNext)
    (wSeq (wAsg (wCall C_divisor E (wCons (wV 0) (wCons (wV 1) wNil))) (gN 2))
    (wSeq (wIfS (wTv (wB oLt (wV 1) (wC (.int 0)))) (wAsg (wO oNeg (wV 2)) (gN 2)) wNext)
    (wRet (wTup (wCons (wB oFdiv (wV 0) (wV 2)) (wCons (wB oFdiv (wV 1) (wV 2)) wNil)))))))
/-- _law_less(first, second): 0=first 1=second -/
def wf__law_less (E : Exc → Prop) : WS :=
    (wRet (wB oLt (wB oMul (wBL oIx 0 (wC (.int 0))) (wBL oIx 1 (wC (.int 1)))) (wB oMul (wBL oIx 1 (wC (.int 0))) (wBL oIx 0 (wC (.int 1))))))
/-- _law_plus(first, second): 0=first 1=second -/
def wf__law_plus (E : Exc → Prop) : WS :=
    (wRet (wCall C__law_ratio E (wCons (wB oAdd (wB oMul (wBL oIx 0 (wC (.int 0))) (wBL oIx 1 (wC (.int 1)))) (wB oMul (wBL oIx 1 (wC (.int 0))) (wBL oIx 0 (wC (.int 1))))) (wCons (wB oMul (wBL oIx 0 (wC (.int 1))) (wBL oIx 1 (wC (.int 1)))) wNil))))
/-- less(first, second): 0=first 1=second -/
def wf_less (E : Exc → Prop) : WS :=
    (wRet (wB oLt (wB oMul (wBL oIx 0 (wC (.int 0))) (wBL oIx 1 (wC (.int 1)))) (wB oMul (wBL oIx 1 (wC (.int 0))) (wBL oIx 0 (wC (.int 1))))))
/-- times(first, second): 0=first 1=second -/
def wf_times (E : Exc → Prop) : WS :=
    (wRet (wCall C_ratio E (wCons (wB oMul (wBL oIx 0 (wC (.int 0))) (wBL oIx 1 (wC (.int 0)))) (wCons (wB oMul (wBL oIx 0 (wC (.int 1))) (wBL oIx 1 (wC (.int 1)))) wNil))))
/-- negative(value): 0=value -/
def wf_negative (E : Exc → Prop) : WS :=
    (wRet (wTup (wCons (wO oNeg (wBL oIx 0 (wC (.int 0)))) (wCons (wBL oIx 0 (wC (.int 1))) wNil))))
/-- added(first, second): 0=first 1=second -/
def wf_added (E : Exc → Prop) : WS :=
    (wRet (wCall C_ratio E (wCons (wB oAdd (wB oMul (wBL oIx 0 (wC (.int 0))) (wBL oIx 1 (wC (.int 1)))) (wB oMul (wBL oIx 1 (wC (.int 0))) (wBL oIx 0 (wC (.int 1))))) (wCons (wB oMul (wBL oIx 0 (wC (.int 1))) (wBL oIx 1 (wC (.int 1)))) wNil))))
/-- over(first, second): 0=first 1=second -/
def wf_over (E : Exc → Prop) : WS :=
    (wRet (wCall C_ratio E (wCons (wB oMul (wBL oIx 0 (wC (.int 0))) (wBL oIx 1 (wC (.int 1)))) (wCons (wB oMul (wBL oIx 0 (wC (.int 1))) (wBL oIx 1 (wC (.int 0)))) wNil))))
/-- _law_sum(values): 0=values 1=total 2=value -/
def wf__law_sum (E : Exc → Prop) : WS :=
    (wSeq (wAsg (wTup (wCons (wC (.int 0)) (wCons (wC (.int 1)) wNil))) (gN 1))
    (wSeq (wFor (itS (wV 0)) (gN 2) (wAsg (wCall C__law_plus E (wCons (wV 1) (wCons (wV 2) wNil))) (gN 1)))
    (wRetV 1)))
/-- summed(values): 0=values 1=total 2=value -/
def wf_summed (E : Exc → Prop) : WS :=
    (wSeq (wAsg (wTup (wCons (wC (.int 0)) (wCons (wC (.int 1)) wNil))) (gN 1))
    (wSeq (wFor (itS (wV 0)) (gN 2) (wAsg (wCall C_added E (wCons (wV 1) (wCons (wV 2) wNil))) (gN 1)))
    (wRetV 1)))
/-- weighed(values, others): 0=values 1=others 2=value 3=other -/
def wf_weighed (E : Exc → Prop) : WS :=
    (wRet (wCall C_summed E (wCons (wLc (itZ (wV 0) (wV 1)) (gTup 2 (gCons (gN 2) (gCons (gN 3) gNil))) tYes (wCall C_times E0d (wCons (wV 2) (wCons (wV 3) wNil))) [2, 3]) wNil)))
/-- greatest(values): 0=values 1=best 2=value -/
def wf_greatest (E : Exc → Prop) : WS :=
    (wSeq (wAsg (wBL oIx 0 (wC (.int 0))) (gN 1))
    (wSeq (wFor (itS (wSl (wV 0) (pS (wC (.int 1))) pN)) (gN 2) (wAsg (wIf (wTv (wCall C_less E (wCons (wV 1) (wCons (wV 2) wNil)))) (wV 2) (wV 1)) (gN 1)))
    (wRetV 1)))
/-- ratio_text(value): 0=value -/
def wf_ratio_text (E : Exc → Prop) : WS :=
    (wRet (wIf (wTv (wB oEq (wBL oIx 0 (wC (.int 1))) (wC (.int 1)))) (wO oStr (wBL oIx 0 (wC (.int 0)))) (wFs [(wO oFmt (wBL oIx 0 (wC (.int 0)))), (wC (.str (Str.ofString "/"))), (wO oFmt (wBL oIx 0 (wC (.int 1))))])))
/-- law(script): 0=script 1=state 2=turn 3=top 4=below 5=one 6=other 7=rows 8=more 9=due 10=best 11=total 12=k 13=text 14=row -/
def wf_law (E : Exc → Prop) : WS :=
    (wSeq (wAsg (wLst (wCons (wCall C__law_stream E (wCons (wV 0) wNil)) (wCons (wC (.int 0)) wNil))) (gN 1))
    (wSeq (wFor (itR1 (wC (.int 12))) (gN 2) (wSeq (wAsg (wB oSub (wCallB C__law_next E 1 (wCons (wC (.int 900)) wNil)) (wC (.int 450))) (gN 3))
    (wSeq (wAsg (wB oIx (wLst (wCons (wB oAdd (wC (.int 1)) (wCallB C__law_next E 1 (wCons (wC (.int 80)) wNil))) (wCons (wB oSub (wB oSub (wC (.int 0)) (wC (.int 1))) (wCallB C__law_next E 1 (wCons (wC (.int 80)) wNil))) wNil))) (wCallB C__law_next E 1 (wCons (wC (.int 2)) wNil))) (gN 4))
    (wSeq (wAsg (wCallB C__law_drawn E 1 wNil) (gN 5))
    (wSeq (wAsg (wCallB C__law_drawn E 1 wNil) (gN 6))
    (wSeq (wAsg (wLc (itR1 (wB oAdd (wC (.int 1)) (wCallB C__law_next E 1 (wCons (wC (.int 5)) wNil)))) (gN 12) tYes (wCallB C__law_drawn E0d 1 wNil) [12]) (gN 7))
    (wSeq (wAsg (wLc (itS (wV 7)) (gN 14) tYes (wCallB C__law_drawn E0d 1 wNil) [14]) (gN 8))
    (wSeq (wIfS (wNot (wTv (wCall C__law_same E (wCons (wLst (wCons (wCall C_ratio E (wCons (wV 3) (wCons (wV 4) wNil))) (wCons (wCall C_is_ratio E (wCons (wV 5) wNil)) (wCons (wCall C_is_ratio E (wCons (wTup (wCons (wB oMul (wC (.int 2)) (wBL oIx 5 (wC (.int 0)))) (wCons (wB oMul (wC (.int 2)) (wBL oIx 5 (wC (.int 1)))) wNil))) wNil)) (wCons (wCall C_is_ratio E (wCons (wTup (wCons (wC (.int 1)) (wCons (wC (.int 0)) wNil))) wNil)) (wCons (wCall C_is_ratio E (wCons (wTup (wCons (wC (.int 3)) (wCons (wO oNeg (wC (.int 1))) wNil))) wNil)) wNil)))))) (wCons (wLst (wCons (wCall C__law_ratio E (wCons (wV 3) (wCons (wV 4) wNil))) (wCons (wC (.bool true)) (wCons (wC (.bool false)) (wCons (wC (.bool false)) (wCons (wC (.bool false)) wNil)))))) wNil))))) (wRet (wC (.bool false))) wNext)
    (wSeq (wAsg (wLst (wCons (wCall C__law_plus E (wCons (wV 5) (wCons (wV 6) wNil))) (wCons (wTup (wCons (wB oSub (wC (.int 0)) (wBL oIx 5 (wC (.int 0)))) (wCons (wBL oIx 5 (wC (.int 1))) wNil))) (wCons (wCall C__law_ratio E (wCons (wB oMul (wBL oIx 5 (wC (.int 0))) (wBL oIx 6 (wC (.int 0)))) (wCons (wB oMul (wBL oIx 5 (wC (.int 1))) (wBL oIx 6 (wC (.int 1)))) wNil))) (wCons (wCall C__law_less E (wCons (wV 5) (wCons (wV 6) wNil))) wNil))))) (gN 9))
    (wSeq (wIfS (wNot (wTv (wCall C__law_same E (wCons (wLst (wCons (wCall C_added E (wCons (wV 5) (wCons (wV 6) wNil))) (wCons (wCall C_negative E (wCons (wV 5) wNil)) (wCons (wCall C_times E (wCons (wV 5) (wCons (wV 6) wNil))) (wCons (wCall C_less E (wCons (wV 5) (wCons (wV 6) wNil))) wNil))))) (wCons (wV 9) wNil))))) (wRet (wC (.bool false))) wNext)
    (wSeq (wIfS (wAnd (wTv (wB oNe (wBL oIx 6 (wC (.int 0))) (wC (.int 0)))) (wNot (wTv (wCall C__law_same E (wCons (wCall C_over E (wCons (wV 5) (wCons (wV 6) wNil))) (wCons (wCall C__law_ratio E (wCons (wB oMul (wBL oIx 5 (wC (.int 0))) (wBL oIx 6 (wC (.int 1)))) (wCons (wB oMul (wBL oIx 5 (wC (.int 1))) (wBL oIx 6 (wC (.int 0)))) wNil))) wNil)))))) (wRet (wC (.bool false))) wNext)
    (wSeq (wAsg (wBL oIx 7 (wC (.int 0))) (gN 10))
    (wSeq (wAsg (wTup (wCons (wC (.int 0)) (wCons (wC (.int 1)) wNil))) (gN 11))
    (wSeq (wFor (itR1 (wOP oLen 7)) (gN 12) (wSeq (wAsg (wB oIx (wLst (wCons (wV 10) (wCons (wBL oIx 7 (wV 12)) wNil))) (wO oInt (wCall C__law_less E (wCons (wV 10) (wCons (wBL oIx 7 (wV 12)) wNil))))) (gN 10))
    (wAsg (wCall C__law_plus E (wCons (wV 11) (wCons (wCall C__law_ratio E (wCons (wB oMul (wB oIx (wBL oIx 7 (wV 12)) (wC (.int 0))) (wB oIx (wBL oIx 8 (wV 12)) (wC (.int 0)))) (wCons (wB oMul (wB oIx (wBL oIx 7 (wV 12)) (wC (.int 1))) (wB oIx (wBL oIx 8 (wV 12)) (wC (.int 1)))) wNil))) wNil))) (gN 11))))
    (wSeq (wIfS (wNot (wTv (wCall C__law_same E (wCons (wLst (wCons (wCall C_greatest E (wCons (wV 7) wNil)) (wCons (wCall C_summed E (wCons (wV 7) wNil)) (wCons (wCall C_weighed E (wCons (wV 7) (wCons (wV 8) wNil))) wNil)))) (wCons (wLst (wCons (wV 10) (wCons (wCall C__law_sum E (wCons (wV 7) wNil)) (wCons (wV 11) wNil)))) wNil))))) (wRet (wC (.bool false))) wNext)
    (wSeq (wAsg (wO oStr (wBL oIx 5 (wC (.int 0)))) (gN 13))
    (wSeq (wIfS (wTv (wB oNe (wBL oIx 5 (wC (.int 1))) (wC (.int 1)))) (wAsg (wB oAdd (wB oAdd (wV 13) (wC (.str (Str.ofString "/")))) (wO oStr (wBL oIx 5 (wC (.int 1))))) (gN 13)) wNext)
    (wIfS (wNot (wTv (wCall C__law_same E (wCons (wCall C_ratio_text E (wCons (wV 5) wNil)) (wCons (wV 13) wNil))))) (wRet (wC (.bool false))) wNext))))))))))))))))))
    (wRet (wC (.bool true)))))
end K01
set_option maxRecDepth 100000
/-! K01m: what the defs compute, from their readings. -/
namespace K01
open PySem Dl
local macro_rules | `(tactic| walk_at "w") => `(tactic| simp only [↓lent_nil, ↓lent_none, ↓lent_sh, ↓lent_ow, ↓lent_bo, ↓setE_t, ↓setE_f, ↓free_sh, ↓free_ow, ↓free_none, ↓rdE_0, ↓rdK_0, ↓rdK_s, ↓dat_sh, ↓dat_ow, ↓dat_bo, ↓wV_sh, ↓wV_ow, ↓wV_s, ↓wC_h, ↓wO_h, ↓wOP_h, ↓wB_h, ↓sureK_0, ↓sureK_s, ↓wBL_h, ↓wBR_h, ↓wBB_h, ↓wNil_h, ↓wCons_h, ↓wTup_h, ↓wLst_h, ↓wF_h, ↓wCall_h, ↓lendK_ow, ↓lendK_bo, ↓lendK_s, ↓wCallB_h, ↓exB, ↓exI, ↓exS, ↓exT, ↓exL, ↓exC, ↓exD, ↓exLL, ↓exLT, ↓exAt0, ↓exAt1, ↓exAt2, ↓wTv_h, ↓wAnd_h, ↓wOr_h, ↓wNot_h, ↓wAndV_h, ↓wOrV_h, ↓wNotV_h, ↓wIf_h, ↓wChain_h, ↓wIfS_h, ↓br_t, ↓br_f, ↓br_nt, ↓br_nf, ↓wNext_h, ↓wSeq_h, ↓wBreak_h, ↓wCont_h, ↓wDrop_h, ↓wRet_h, ↓wRetV_h, ↓retK_sh, ↓retK_ow, ↓retK_s, ↓wRetN_h, ↓wNever_h, ↓wRaise_h, ↓gN_h, ↓gK_nt, ↓gK_nf, ↓gK_st, ↓gK_sf, ↓gK_ot, ↓gK_of, ↓gK_gt, ↓gK_gf, ↓gK_s, ↓gNil_h, ↓gCons_h, ↓gTup_h, ↓gIx_h, ↓ixK_s, ↓ixK_ow, ↓ixK_bo, ↓exIx0, ↓exIx1, ↓wAsg_h, ↓wPar_h, ↓isL_ow, ↓isL_bo, ↓sureL_ow, ↓sureL_bo, ↓sureL_s, ↓wApp_h, ↓appK_s, ↓appK_ow, ↓appK_bo, ↓wFor_h, ↓itS_h, ↓itR1_h, ↓itR2_h, ↓itZ_h, ↓exZL, ↓tYes_h, ↓frees_nil, ↓frees_cons, ↓wipe_nil, ↓wipe_cons, ↓back_nil, ↓back_cons, ↓putK_0, ↓putK_s, ↓getK_0, ↓getK_s, ↓backK_nil, ↓backK_cons, ↓wipeK_nil, ↓wipeK_cons, ↓wLc_h, ↓wSl_h, ↓pN_h, ↓pS_h, ↓wFs_h, ↓fs_nil, ↓fs_cons, ↓oAdd_i, ↓oAdd_s, ↓oAdd_l, ↓oAdd_t, ↓oSub_i, ↓oMul_i, ↓oMul_l, ↓oFdiv_i, ↓oMod_i, ↓oPow_i, ↓oNeg_i, ↓oEq_i, ↓oNe_i, ↓oLt_i, ↓oLe_i, ↓oGt_i, ↓oGe_i, ↓oIx_l, ↓oIx_t, ↓oLen_l, ↓oLen_t, ↓oLen_scr, ↓oAbs_i, ↓oInt_i, ↓oInt_b, ↓oMax2_i, ↓oMin2_i, ↓oStr_i, ↓oStr_s, ↓oFmt_i, ↓oFmt_s, ↓oCut_l, ↓oCut_t, ↓oCut_scr, ↓startE_nil, ↓startE_f, ↓startE_t, ↓shortK_nil, ↓shortK_c1, ↓shortK_c2, ↓shortK_c3, ↓shortK_c4, ↓shortK_c5, ↓shortK_c6, ↓free_g, ↓lent_g, ↓oRepr_l, ↓oEq_s, ↓oNe_s,
  ↓List.replicate, ↓List.set_cons_zero, ↓List.set_cons_succ, ↓List.length_cons, ↓List.length_nil, ↓List.length_map, true_and, and_true, eqv_str_self, getE_s, getE_0, isL_s, free_s, rdE_s, ↓lent_g])
theorem gcd_step (a b : Int) (hb : 0 < b) : Int.gcd b (a.fmod b) = Int.gcd a b := by
  have e := Int.mul_fdiv_add_fmod a b
  calc Int.gcd b (a.fmod b) = Int.gcd b (a.fmod b + b * a.fdiv b) := (Int.gcd_add_mul_left_right ..).symm
    _ = Int.gcd b a := by rw [Int.add_comm, e]
    _ = Int.gcd a b := Int.gcd_comm ..
theorem absm (a : Int) : (if a < 0 then -a else a) = (a.natAbs : Int) := by split <;> omega
theorem maxm (a : Int) : (if 0 - a > a then 0 - a else a) = (a.natAbs : Int) := by split <;> omega
def DivW (a b : Int) (m : Nat) (ρ : Dl.Env) : Prop := ∃ x y : Int, ρ = [some (.sh (.int x)), some (.sh (.int y))] ∧ 0 ≤ x ∧ 0 ≤ y ∧ Int.gcd x y = Int.gcd a b ∧ y.toNat = m
theorem divW0 (a b : Int) : DivW a b b.natAbs [some (.sh (.int a.natAbs)), some (.sh (.int b.natAbs))] :=
  ⟨_, _, rfl, by omega, by omega, by simp [Int.gcd], rfl⟩
theorem divW1 {a b x y : Int} {m : Nat} {K : Dl.Env → Prop} (hy : 0 < y) (hx : 0 ≤ x) (hg : Int.gcd x y = Int.gcd a b) (hm : y.toNat = m)
    (hK : ∀ m' ρ, m' < m → DivW a b m' ρ → K ρ) : K [some (.sh (.int y)), some (.sh (.int (x.fmod y)))] := by
  have h0 := Int.fmod_nonneg_of_pos x hy
  have h1 := Int.fmod_lt_of_pos x hy
  exact hK (x.fmod y).toNat _ (by omega) ⟨_, _, rfl, by omega, h0, by rw [gcd_step x y hy, hg], rfl⟩
theorem k_divisor : Keeps C_divisor [false, false] 0 wf_divisor := fun ds Q E h => by
  obtain ⟨a, b, rfl, q⟩ := h
  refine ⟨rfl, ?_⟩
  unfold wf_divisor
  walk_at "w"
  rw [absm, absm]
  refine wWhile_rule (DivW a b) _ (divW0 a b) ?_
  rintro m ρ K hK ⟨x, y, rfl, hx, hy, hg, hm⟩
  walk_at "w"
  refine br (fun h0 => ?_) (fun h0 => ?_)
  · walk_at "w"
    exact ⟨by omega, divW1 h0 hx hg hm hK⟩
  have e : y = 0 := by omega
  subst e
  rw [show x = (Int.gcd a b : Int) by rw [← hg]; simp [Int.gcd]; omega]
  exact q
theorem k__law_divisor : Keeps C__law_divisor [false, false] 0 wf__law_divisor := fun ds Q E h => by
  obtain ⟨a, b, rfl, q⟩ := h
  refine ⟨rfl, ?_⟩
  unfold wf__law_divisor
  walk_at "w"
  rw [maxm, maxm]
  refine wWhile_rule (DivW a b) _ (divW0 a b) ?_
  rintro m ρ K hK ⟨x, y, rfl, hx, hy, hg, hm⟩
  walk_at "w"
  refine br (fun h0 => ?_) (fun h0 => ?_)
  · walk_at "w"
    exact ⟨by omega, divW1 h0 hx hg hm hK⟩
  have e : y = 0 := by omega
  subst e
  rw [show x = (Int.gcd a b : Int) by rw [← hg]; simp [Int.gcd]; omega]
  exact q
theorem gcd_pos {t b : Int} (h : b ≠ 0) : 0 < Int.gcd t b := Nat.pos_of_ne_zero fun e => h (Int.gcd_eq_zero_iff.mp e).2
theorem gcd_le {t b : Int} (h : b ≠ 0) : Int.gcd t b ≤ b.natAbs := Nat.le_of_dvd (by omega) (Int.natAbs_dvd_natAbs.mpr (Int.gcd_dvd_right ..) |> fun h => by simpa using h)
theorem gg_neg {t b : Int} (h : b < 0) : gg t b = 0 - (Int.gcd t b : Int) := by unfold gg; rw [if_pos h]
theorem gg_pos {t b : Int} (h : ¬ b < 0) : gg t b = (Int.gcd t b : Int) := by unfold gg; rw [if_neg h]
theorem gg_ok {t b : Int} (h : b ≠ 0) (hb : b.natAbs < 2 ^ 1000) : gg t b ≠ 0 ∧ (gg t b).natAbs.log2 < 9000 := by
  have h1 := gcd_pos (t := t) h
  have h2 := gcd_le (t := t) h
  have e : (gg t b).natAbs = Int.gcd t b := by unfold gg; split <;> omega
  refine ⟨fun e0 => by rw [e0] at e; simp at e; omega, ?_⟩
  rw [e]
  exact Nat.lt_trans (log2_lt_of (Nat.lt_of_le_of_lt h2 hb) (by omega)) (by omega)
theorem ratR {t b : Int} {g : Int} {Q : D → Bool → List D → Prop} (g1 : g ≠ 0) (g2 : g.natAbs.log2 < 9000) (h : gg t b = g) (q : Q (enc (rat t b)) false []) :
    fdivOk g ∧ fdivOk g ∧ Q (.tuple [.int (t.fdiv g), .int (b.fdiv g)]) false [] := by
  subst h
  exact ⟨⟨g1, g2⟩, ⟨g1, g2⟩, q⟩
theorem k__law_ratio : Keeps C__law_ratio [false, false] 1 wf__law_ratio := fun ds Q E h => by
  obtain ⟨t, b, rfl, h0, hb, q⟩ := h
  refine ⟨rfl, ?_⟩
  obtain ⟨g1, g2⟩ := gg_ok (t := t) h0 hb
  unfold wf__law_ratio
  walk_at "w"
  refine ⟨t, b, rfl, ?_⟩
  walk_at "w"
  refine br (fun hn => ?_) (fun hn => ?_)
  · walk_at "w"
    exact ratR (gg_neg hn ▸ g1) (gg_neg hn ▸ g2) (gg_neg hn) q
  · walk_at "w"
    exact ratR (gg_pos hn ▸ g1) (gg_pos hn ▸ g2) (gg_pos hn) q
theorem k_ratio : Keeps C_ratio [false, false] 1 wf_ratio := fun ds Q E h => by
  obtain ⟨t, b, rfl, h0, hb, q⟩ := h
  refine ⟨rfl, ?_⟩
  obtain ⟨g1, g2⟩ := gg_ok (t := t) h0 hb
  unfold wf_ratio
  walk_at "w"
  refine br (fun e => (h0 e).elim) (fun _ => ?_)
  walk_at "w"
  refine ⟨t, b, rfl, ?_⟩
  walk_at "w"
  have e : ∀ x : Int, 0 - x = -x := by intro x; omega
  refine br (fun hn => ?_) (fun hn => ?_)
  · walk_at "w"
    rw [← e]
    exact ratR (gg_neg hn ▸ g1) (gg_neg hn ▸ g2) (gg_neg hn) q
  walk_at "w"
  exact ratR (gg_pos hn ▸ g1) (gg_pos hn ▸ g2) (gg_pos hn) q
/-! sizes -/
theorem natAbs_fdiv_le (a : Int) (g : Nat) (hg : 0 < g) (hd : (g : Int) ∣ a) : (a.fdiv g).natAbs ≤ a.natAbs := by
  obtain ⟨k, rfl⟩ := hd
  rw [Int.mul_comm, Int.mul_fdiv_cancel _ (by omega), Int.natAbs_mul]
  exact Nat.le_mul_of_pos_right _ (by omega)
theorem Rz_rat {t b : Int} {n : Nat} (ht : t.natAbs < 2 ^ n) (h0 : 0 < b) (hb : b < 2 ^ n) : Rz n (rat t b) := by
  have hg := gcd_pos (t := t) (b := b) (by omega)
  have hp : gg t b = (Int.gcd t b : Int) := gg_pos (by omega)
  unfold rat Rz
  rw [hp]
  have d1 : (Int.gcd t b : Int) ∣ t := Int.gcd_dvd_left ..
  have d2 : (Int.gcd t b : Int) ∣ b := Int.gcd_dvd_right ..
  have l1 := natAbs_fdiv_le t _ hg d1
  have l2 := natAbs_fdiv_le b _ hg d2
  have e1 : t.fdiv (Int.gcd t b) = t / (Int.gcd t b) := Int.fdiv_eq_ediv_of_nonneg _ (by omega)
  have e2 : b.fdiv (Int.gcd t b) = b / (Int.gcd t b) := Int.fdiv_eq_ediv_of_nonneg _ (by omega)
  have l3 : 0 < b / (Int.gcd t b : Int) := Int.ediv_pos_of_pos_of_dvd h0 (by omega) d2
  refine ⟨by show (t.fdiv _).natAbs < _; omega, by show 0 < b.fdiv _; omega, ?_, ?_⟩
  · show b.fdiv _ < _
    have e3 : ((2 ^ n : Nat) : Int) = (2 : Int) ^ n := by norm_cast
    omega
  · show Int.gcd (t.fdiv _) (b.fdiv _) = 1
    rw [e1, e2]
    exact Int.gcd_ediv_gcd_ediv_gcd hg

/-! the stream -/
def okN (ms : List Int) : Prop := ∀ m ∈ ms, 0 ≤ m ∧ m < 1009
theorem okN_app {ms : List Int} {m : Int} (h : okN ms) (h0 : 0 ≤ m) (h1 : m < 1009) : okN (ms ++ [m]) := by
  intro x hx
  rcases List.mem_append.mp hx with hx | hx
  · exact h x hx
  · rw [List.mem_singleton.mp hx]; exact ⟨h0, h1⟩
def StrI (s : D) (o6 : List (Option EV)) (xs : List D) (ρ : Dl.Env) : Prop := ∃ (ms : List Int) (o2 o3 o4 o5 : Option D),
  ρ = [some (.sh s), some (.ow (.list (ms.map PyData.int))), gb o2, gb o3, gb o4, gb o5] ∧ okN ms ∧ ms.length + 60 * xs.length ≤ 60 * 63 ∧ ∀ x ∈ xs, ∃ z : Int, x = .int z
def StrI2 (s c : D) (o5 : Option D) (n : Nat) (xs : List D) (ρ : Dl.Env) : Prop := ∃ (ms : List Int) (r : Int) (o4 : Option D),
  ρ = [some (.sh s), some (.ow (.list (ms.map PyData.int))), some (.sh c), some (.sh (.int r)), gb o4, gb o5] ∧ okN ms ∧ 0 ≤ r ∧ ms.length + xs.length ≤ n
def StrI3 (s c r : D) (n : Nat) (xs : List D) (ρ : Dl.Env) : Prop := ∃ (ms : List Int) (t : Int) (o4 : Option D),
  ρ = [some (.sh s), some (.ow (.list (ms.map PyData.int))), some (.sh c), some (.sh r), gb o4, some (.sh (.int t))] ∧ okN ms ∧ 0 ≤ t ∧ t < 2147483647 ∧ ms.length + xs.length ≤ n ∧ ∀ x ∈ xs, ∃ z : Int, x = .int z
theorem k__law_stream : Keeps C__law_stream [false] 5 wf__law_stream := fun ds Q E h => by
  obtain ⟨ns, rfl, hl, q⟩ := h
  refine ⟨rfl, ?_⟩
  unfold wf__law_stream
  walk_at "w"
  refine forGo_rule (StrI (scrD (ns.map PyData.int)) []) ?_ ?_ _ _ ?_
  · rintro ρ ⟨ms, o2, o3, o4, o5, rfl, hm, hn, hx⟩
    walk_at "w"
    refine br (fun h0 => ?_) (fun h0 => ?_)
    · walk_at "w"
      refine ⟨by show _ < 16777216; simp at hn ⊢; omega, ?_⟩
      have e : ms = [] := by simpa using h0
      subst e
      exact q [0] (by simp) (by simp) (by simp)
    · walk_at "w"
      exact q ms (fun e => h0 (by simp [e])) (by simp at hn; omega) hm
  · rintro x xs ρ K hK ⟨ms, o2, o3, o4, o5, rfl, hm, hn, hx⟩
    obtain ⟨z, rfl⟩ := hx x (List.mem_cons_self ..)
    have hx' := fun y hy => hx y (List.mem_cons_of_mem _ hy)
    rw [List.length_cons] at hn
    walk_at "w"
    rw [absm]
    refine ⟨⟨by decide, by decide, by decide⟩, br (fun h0 => ?_) (fun h0 => ?_)⟩
    · walk_at "w"
      refine ⟨⟨by decide, by decide⟩, ?_⟩
      refine forGo_rule (StrI2 (scrD (ns.map PyData.int)) (.int z) o5 (ms.length + 60)) ?_ ?_ _ _ ?_
      · rintro ρ ⟨ms', r, o4', rfl, hm', h0', hn'⟩
        walk_at "w"
        exact hK _ ⟨ms', some (.int z), some (.int r), o4', o5, rfl, hm', by simp at hn'; omega, hx'⟩
      · rintro y ys ρ K2 hK2 ⟨ms', r, o4', rfl, hm', h0', hn'⟩
        rw [List.length_cons] at hn'
        walk_at "w"
        have e1 := Int.fmod_nonneg_of_pos r (b := 1009) (by decide)
        have e2 := Int.fmod_lt_of_pos r (b := 1009) (by decide)
        have e3 : 0 ≤ r.fdiv 1009 := Int.fdiv_nonneg h0' (by decide)
        have hm2 := okN_app hm' e1 e2
        have e4 : ms'.map PyData.int ++ [.int (r.fmod 1009)] = (ms' ++ [r.fmod 1009]).map PyData.int := by simp
        rw [e4]
        refine ⟨by decide, by show _ < 16777216; omega, ⟨by decide, by decide⟩, br (fun h1 => ?_) (fun h1 => ?_)⟩
        · exact hK _ ⟨_, some (.int z), some (.int (r.fdiv 1009)), some y, o5, rfl, hm2, by simp; omega, hx'⟩
        · exact hK2 _ ⟨_, _, some y, rfl, hm2, e3, by rw [List.length_append]; simp only [List.length_singleton]; omega⟩
      · exact ⟨ms, z.natAbs, o4, rfl, hm, by omega, by rw [rangeL_length]; omega⟩
    · walk_at "w"
      have e1 := Int.fmod_nonneg_of_pos (z.natAbs : Int) (b := 2147483647) (by decide)
      have e2 := Int.fmod_lt_of_pos (z.natAbs : Int) (b := 2147483647) (by decide)
      refine ⟨by decide, ⟨by decide, by decide⟩, ?_⟩
      refine forGo_rule (StrI3 (scrD (ns.map PyData.int)) (.int z) (.int z.natAbs) (ms.length + 10)) ?_ ?_ _ _ ?_
      · rintro ρ ⟨ms', t, o4', rfl, hm', h0', h1', hn', _⟩
        walk_at "w"
        exact hK _ ⟨ms', some (.int z), some (.int z.natAbs), o4', some (.int t), rfl, hm', by simp at hn'; omega, hx'⟩
      · rintro y ys ρ K2 hK2 ⟨ms', t, o4', rfl, hm', h0', h1', hn', hy⟩
        obtain ⟨k, rfl⟩ := hy y (List.mem_cons_self ..)
        have hy' := fun x hx => hy x (List.mem_cons_of_mem _ hx)
        rw [List.length_cons] at hn'
        walk_at "w"
        have f1 := Int.fmod_nonneg_of_pos (t * 48271 + 7 * k + 11) (b := 2147483647) (by decide)
        have f2 := Int.fmod_lt_of_pos (t * 48271 + 7 * k + 11) (b := 2147483647) (by decide)
        generalize (t * 48271 + 7 * k + 11).fmod 2147483647 = u at *
        have g1 := Int.fmod_nonneg_of_pos ((u * 69621 + k).fmod 2147483629) (b := 1009) (by decide)
        have g2 := Int.fmod_lt_of_pos ((u * 69621 + k).fmod 2147483629) (b := 1009) (by decide)
        have hm2 := okN_app hm' g1 g2
        generalize ((u * 69621 + k).fmod 2147483629).fmod 1009 = v at *
        have e4 : ms'.map PyData.int ++ [.int v] = (ms' ++ [v]).map PyData.int := by simp
        rw [e4]
        refine ⟨.inr (.inl ⟨by decide, by decide⟩), .inl ⟨by decide, by decide⟩, by decide, .inr (.inl ⟨by decide, by decide⟩), by decide, by decide, by show _ < 16777216; omega, ?_⟩
        exact hK2 _ ⟨_, u, some (.int k), rfl, hm2, f1, f2, by simp; omega, hy'⟩
      · refine ⟨ms, _, o4, rfl, hm, e1, e2, by rw [rangeL_length]; exact Nat.le_refl _, ?_⟩
        intro x hx
        obtain ⟨k, _, e⟩ := List.mem_map.mp hx
        exact ⟨_, e.symm⟩
  · refine ⟨[], none, none, none, none, rfl, by intro x hx; simp at hx, ?_, ?_⟩
    · simp [cutD, cutIx]; omega
    · intro x hx
      obtain ⟨z, _, e⟩ := List.mem_map.mp (mem_cut hx)
      exact ⟨z, e.symm⟩

/-! drawing -/
theorem StB_mono {b c : Nat} {d : D} (h : StB b d) (hc : c ≤ b) : StB c d := by
  obtain ⟨ns, t, rfl, h1, h2, h3, h4, h5⟩ := h
  exact ⟨ns, t, rfl, h1, h2, h3, h4, by omega⟩
theorem k__law_next : Keeps C__law_next [true, false] 1 wf__law_next := fun ds Q E h => by
  obtain ⟨b, d, many, rfl, ⟨ns, c, rfl, hne, hll, hns, h0, h1⟩, hm, q⟩ := h
  refine ⟨rfl, ?_⟩
  have hl : 0 < ns.length := List.length_pos_iff.mpr hne
  have g1 := Int.fmod_nonneg_of_pos (c + 1) (b := (ns.length : Int)) (by omega)
  have g2 := Int.fmod_lt_of_pos (c + 1) (b := (ns.length : Int)) (by omega)
  obtain ⟨x, hx, e⟩ := atD_mem (xs := ns.map PyData.int) (i := (c + 1).fmod (ns.length : Int)) g1 (by simpa using g2)
  obtain ⟨z, hz, rfl⟩ := List.mem_map.mp hx
  have t0 : 0 ≤ (c + 1).fdiv (ns.length : Int) := Int.fdiv_nonneg (by omega) (by omega)
  have t1 : (c + 1).fdiv (ns.length : Int) ≤ c + 1 := by
    rw [Int.fdiv_eq_ediv_of_nonneg _ (by omega)]
    exact Int.ediv_le_self _ (by omega)
  unfold wf__law_next stD
  walk_at "w"
  generalize (c + 1).fdiv (ns.length : Int) = turn at *
  refine ⟨⟨by omega, ?_⟩, by omega, _, e, ?_⟩
  · exact Nat.lt_trans (log2_lt_of (k := 20) (by simp; omega) (by omega)) (by omega)
  walk_at "w"
  have r0 := Int.fmod_nonneg_of_pos (z + turn * 389 + (c + 1) * turn * 17) hm
  have r1 := Int.fmod_lt_of_pos (z + turn * 389 + (c + 1) * turn * 17) hm
  refine ⟨.inl ⟨by omega, by omega⟩, .inl ⟨by omega, by omega⟩, .inr (.inl ⟨by decide, by decide⟩), by omega, ?_⟩
  exact q _ _ ⟨ns, c + 1, rfl, hne, hll, hns, by omega, by omega⟩ r0 r1
theorem next_rule {b : Nat} {d : D} {many : Int} {Q : D → Bool → List D → Prop} {E : Exc → Prop} (hs : StB b d) (hb : 1 ≤ b) (hm : 0 < many)
    (k : ∀ d' r, StB (b - 1) d' → 0 ≤ r → r < many → Q (.int r) false [d']) : Hold (C__law_next [d, .int many] Q E) .mk :=
  ⟨b - 1, d, many, rfl, by rwa [Nat.sub_add_cancel hb], hm, k⟩
theorem drawn_rule {b : Nat} {d : D} {Q : D → Bool → List D → Prop} {E : Exc → Prop} (hs : StB b d) (hb : 3 ≤ b)
    (k : ∀ d' p, StB (b - 3) d' → Rz 30 p → Q (enc p) false [d']) : Hold (C__law_drawn [d] Q E) .mk :=
  ⟨b - 3, d, rfl, by rwa [Nat.sub_add_cancel hb], k⟩
theorem k__law_drawn : Keeps C__law_drawn [true] 1 wf__law_drawn := fun ds Q E h => by
  obtain ⟨b, d, rfl, hs, q⟩ := h
  refine ⟨rfl, ?_⟩
  unfold wf__law_drawn
  walk_at "w"
  refine next_rule hs (by omega) (by decide) fun d1 r1 hs h0 h1 => ?_
  walk_at "w"
  refine ⟨⟨by decide, by decide, by decide⟩, ?_⟩
  refine next_rule hs (by omega) (by decide) fun d2 r2 hs h2 h3 => ?_
  walk_at "w"
  have e : ∃ g : Int, 0 < g ∧ g ≤ 1000000 ∧ atD [PyData.int 1, PyData.int (10 ^ Int.toNat 6)] (if decide (r2 = 0) = true then 1 else 0) = some (.int g) := by
    by_cases h : r2 = 0
    · exact ⟨1000000, by decide, by decide, by simp [h, atD1]⟩
    · exact ⟨1, by decide, by decide, by simp [h, atD0]⟩
  obtain ⟨g, g0, g1, e⟩ := e
  refine ⟨_, e, ?_⟩
  walk_at "w"
  refine ⟨.inl ⟨by omega, by omega⟩, ?_⟩
  refine next_rule hs (by omega) (by decide) fun d3 r3 hs h4 h5 => ?_
  walk_at "w"
  refine ⟨_, _, rfl, by omega, by omega, ?_⟩
  walk_at "w"
  have hb : ((r1 - 200) * g).natAbs < 2 ^ 30 := by
    rw [Int.natAbs_mul]
    calc _ ≤ 200 * 1000000 := Nat.mul_le_mul (by omega) (by omega)
      _ < _ := by decide
  exact q _ _ (by simpa using hs) (Rz_rat hb (by omega) (by omega))
theorem k__law_same : Keeps C__law_same [false, false] 0 wf__law_same := fun ds Q E h => by
  obtain ⟨a, rfl, hs, q⟩ := h
  refine ⟨rfl, ?_⟩
  unfold wf__law_same
  walk_at "w"
  exact ⟨same_ok hs, same_ok hs, q⟩

/-! the ratios -/
theorem enc_inj {p q : Int × Int} (h : enc p = enc q) : p = q := by
  obtain ⟨a, b⟩ := p
  obtain ⟨c, d⟩ := q
  simpa [enc] using h
theorem enc0 (p : Int × Int) (Q : D → Bool → Prop) : oIx (enc p) (.int 0) Q = Q (.int p.1) false := by
  unfold enc
  rw [oIx_t, exAt0]
theorem enc1 (p : Int × Int) (Q : D → Bool → Prop) : oIx (enc p) (.int 1) Q = Q (.int p.2) false := by
  unfold enc
  rw [oIx_t, exAt1]
theorem encL (p : Int × Int) (Q : D → Bool → Prop) : oLen (enc p) Q = Q (.int 2) false := rfl
theorem enc2 {p q p' q' : Int × Int} (h : [enc p, enc q] = [enc p', enc q']) : p = p' ∧ q = q' := by
  simp only [List.cons.injEq, and_true] at h
  exact ⟨enc_inj h.1, enc_inj h.2⟩
variable {Q : D → Bool → List D → Prop} {E : Exc → Prop}
theorem c_lless (p q : Int × Int) : Hold (C__law_less [enc p, enc q] Q E) .mk = (Rz 2000 p ∧ Rz 2000 q ∧ Q (.bool (lessP p q)) false []) :=
  propext ⟨fun ⟨p', q', e, h⟩ => by obtain ⟨rfl, rfl⟩ := enc2 e; exact h, fun h => ⟨p, q, rfl, h⟩⟩
theorem c_less (p q : Int × Int) : Hold (C_less [enc p, enc q] Q E) .mk = (Rz 2000 p ∧ Rz 2000 q ∧ Q (.bool (lessP p q)) false []) := c_lless p q
theorem c_lplus (p q : Int × Int) : Hold (C__law_plus [enc p, enc q] Q E) .mk = (Rz 400 p ∧ Rz 400 q ∧ Q (enc (plus p q)) false []) :=
  propext ⟨fun ⟨p', q', e, h⟩ => by obtain ⟨rfl, rfl⟩ := enc2 e; exact h, fun h => ⟨p, q, rfl, h⟩⟩
theorem c_added (p q : Int × Int) : Hold (C_added [enc p, enc q] Q E) .mk = (Rz 400 p ∧ Rz 400 q ∧ Q (enc (plus p q)) false []) := c_lplus p q
theorem c_times (p q : Int × Int) : Hold (C_times [enc p, enc q] Q E) .mk = (Rz 400 p ∧ Rz 400 q ∧ Q (enc (mul p q)) false []) :=
  propext ⟨fun ⟨p', q', e, h⟩ => by obtain ⟨rfl, rfl⟩ := enc2 e; exact h, fun h => ⟨p, q, rfl, h⟩⟩
theorem c_over (p q : Int × Int) : Hold (C_over [enc p, enc q] Q E) .mk = (Rz 400 p ∧ Rz 400 q ∧ q.1 ≠ 0 ∧ Q (enc (rat (p.1 * q.2) (p.2 * q.1))) false []) :=
  propext ⟨fun ⟨p', q', e, h⟩ => by obtain ⟨rfl, rfl⟩ := enc2 e; exact h, fun h => ⟨p, q, rfl, h⟩⟩
theorem c_negative (p : Int × Int) : Hold (C_negative [enc p] Q E) .mk = Q (enc (0 - p.1, p.2)) false [] :=
  propext ⟨fun ⟨p', e, h⟩ => by simp only [List.cons.injEq, and_true] at e; rw [enc_inj e]; exact h, fun h => ⟨p, rfl, h⟩⟩
theorem c_text (p : Int × Int) : Hold (C_ratio_text [enc p] Q E) .mk = (Rz 1000 p ∧ Q (.str (if p.2 = 1 then txt p.1 else txt p.1 ++ Str.ofString "/" ++ txt p.2)) false []) :=
  propext ⟨fun ⟨p', e, h⟩ => by simp only [List.cons.injEq, and_true] at e; obtain rfl := enc_inj e; exact h, fun h => ⟨p, rfl, h⟩⟩
theorem c_is (p : Int × Int) : Hold (C_is_ratio [enc p] Q E) .mk = Q (.bool (decide (1 ≤ p.2) && decide (Int.gcd p.1 p.2 = 1))) false [] :=
  propext ⟨fun ⟨p', e, h⟩ => by simp only [List.cons.injEq, and_true] at e; rw [enc_inj e]; exact h, fun h => ⟨p, rfl, h⟩⟩
theorem c_is2 (a b : Int) : Hold (C_is_ratio [.tuple [.int a, .int b]] Q E) .mk = Q (.bool (decide (1 ≤ b) && decide (Int.gcd a b = 1))) false [] := c_is (a, b)
theorem c_lratio (a b : Int) : Hold (C__law_ratio [.int a, .int b] Q E) .mk = (b ≠ 0 ∧ b.natAbs < 2 ^ 1000 ∧ Q (enc (rat a b)) false []) :=
  propext ⟨fun ⟨a', b', e, h⟩ => by
    simp only [List.cons.injEq, and_true, PyData.int.injEq] at e
    obtain ⟨rfl, rfl⟩ := e
    exact h, fun h => ⟨a, b, rfl, h⟩⟩
theorem c_ratio (a b : Int) : Hold (C_ratio [.int a, .int b] Q E) .mk = (b ≠ 0 ∧ b.natAbs < 2 ^ 1000 ∧ Q (enc (rat a b)) false []) := c_lratio a b
theorem c_div (a b : Int) : Hold (C_divisor [.int a, .int b] Q E) .mk = Q (.int (Int.gcd a b)) false [] :=
  propext ⟨fun ⟨a', b', e, h⟩ => by
    simp only [List.cons.injEq, and_true, PyData.int.injEq] at e
    obtain ⟨rfl, rfl⟩ := e
    exact h, fun h => ⟨a, b, rfl, h⟩⟩
theorem c_same (a : D) : Hold (C__law_same [a, a] Q E) .mk = (Sd 40 1000000 a ∧ Q (.bool true) false []) :=
  propext ⟨fun ⟨b, e, h⟩ => by
    simp only [List.cons.injEq, and_true, and_self] at e
    rw [e]
    exact h, fun h => ⟨a, rfl, h⟩⟩
local macro_rules | `(tactic| walk_at "w") => `(tactic| simp only [↓enc0, ↓enc1, ↓encL, ↓c_lless, ↓c_less, ↓c_lplus, ↓c_added, ↓c_times, ↓c_over, ↓c_negative, ↓c_text, ↓c_is, ↓c_is2, ↓c_lratio, ↓c_ratio, ↓c_div,
  ↓lent_nil, ↓lent_none, ↓lent_sh, ↓lent_ow, ↓lent_bo, ↓setE_t, ↓setE_f, ↓free_sh, ↓free_ow, ↓free_none, ↓rdE_0, ↓rdK_0, ↓rdK_s, ↓dat_sh, ↓dat_ow, ↓dat_bo, ↓wV_sh, ↓wV_ow, ↓wV_s, ↓wC_h, ↓wO_h, ↓wOP_h, ↓wB_h, ↓sureK_0, ↓sureK_s, ↓wBL_h, ↓wBR_h, ↓wBB_h, ↓wNil_h, ↓wCons_h, ↓wTup_h, ↓wLst_h, ↓wF_h, ↓wCall_h, ↓lendK_ow, ↓lendK_bo, ↓lendK_s, ↓wCallB_h, ↓exB, ↓exI, ↓exS, ↓exT, ↓exL, ↓exC, ↓exD, ↓exLL, ↓exLT, ↓exAt0, ↓exAt1, ↓exAt2, ↓wTv_h, ↓wAnd_h, ↓wOr_h, ↓wNot_h, ↓wAndV_h, ↓wOrV_h, ↓wNotV_h, ↓wIf_h, ↓wChain_h, ↓wIfS_h, ↓br_t, ↓br_f, ↓br_nt, ↓br_nf, ↓wNext_h, ↓wSeq_h, ↓wBreak_h, ↓wCont_h, ↓wDrop_h, ↓wRet_h, ↓wRetV_h, ↓retK_sh, ↓retK_ow, ↓retK_s, ↓wRetN_h, ↓wNever_h, ↓wRaise_h, ↓gN_h, ↓gK_nt, ↓gK_nf, ↓gK_st, ↓gK_sf, ↓gK_ot, ↓gK_of, ↓gK_gt, ↓gK_gf, ↓gK_s, ↓gNil_h, ↓gCons_h, ↓gTup_h, ↓gIx_h, ↓ixK_s, ↓ixK_ow, ↓ixK_bo, ↓exIx0, ↓exIx1, ↓wAsg_h, ↓wPar_h, ↓isL_ow, ↓isL_bo, ↓sureL_ow, ↓sureL_bo, ↓sureL_s, ↓wApp_h, ↓appK_s, ↓appK_ow, ↓appK_bo, ↓wFor_h, ↓itS_h, ↓itR1_h, ↓itR2_h, ↓itZ_h, ↓exZL, ↓tYes_h, ↓frees_nil, ↓frees_cons, ↓wipe_nil, ↓wipe_cons, ↓back_nil, ↓back_cons, ↓putK_0, ↓putK_s, ↓getK_0, ↓getK_s, ↓backK_nil, ↓backK_cons, ↓wipeK_nil, ↓wipeK_cons, ↓wLc_h, ↓wSl_h, ↓pN_h, ↓pS_h, ↓wFs_h, ↓fs_nil, ↓fs_cons, ↓oAdd_i, ↓oAdd_s, ↓oAdd_l, ↓oAdd_t, ↓oSub_i, ↓oMul_i, ↓oMul_l, ↓oFdiv_i, ↓oMod_i, ↓oPow_i, ↓oNeg_i, ↓oEq_i, ↓oNe_i, ↓oLt_i, ↓oLe_i, ↓oGt_i, ↓oGe_i, ↓oIx_l, ↓oIx_t, ↓oLen_l, ↓oLen_t, ↓oLen_scr, ↓oAbs_i, ↓oInt_i, ↓oInt_b, ↓oMax2_i, ↓oMin2_i, ↓oStr_i, ↓oStr_s, ↓oFmt_i, ↓oFmt_s, ↓oCut_l, ↓oCut_t, ↓oCut_scr, ↓startE_nil, ↓startE_f, ↓startE_t, ↓shortK_nil, ↓shortK_c1, ↓shortK_c2, ↓shortK_c3, ↓shortK_c4, ↓shortK_c5, ↓shortK_c6, ↓free_g, ↓lent_g, ↓oRepr_l, ↓oEq_s, ↓oNe_s,
  ↓List.replicate, ↓List.set_cons_zero, ↓List.set_cons_succ, ↓List.length_cons, ↓List.length_nil, ↓List.length_map, true_and, and_true, eqv_str_self, getE_s, getE_0, isL_s, free_s, rdE_s, ↓lent_g])
theorem Rz_abs {n : Nat} {p : Int × Int} (h : Rz n p) : p.1.natAbs < 2 ^ n ∧ p.2.natAbs < 2 ^ n ∧ p.2 ≠ 0 := by
  obtain ⟨a, b, c, _⟩ := h
  have e3 : ((2 ^ n : Nat) : Int) = (2 : Int) ^ n := by norm_cast
  exact ⟨a, by omega, by omega⟩
theorem mulOk_of {a b : Int} {n m : Nat} (ha : a.natAbs < 2 ^ n) (hb : b.natAbs < 2 ^ m) (hn : 0 < n) (hm : 0 < m) (h : n + m ≤ 1000000) : mulOk a b := by
  have h1 := log2_lt_of ha hn
  have h2 := log2_lt_of hb hm
  exact .inr (.inr (by omega))
theorem Rz_mono {n m : Nat} {p : Int × Int} (h : Rz n p) (hn : n ≤ m) : Rz m p := by
  obtain ⟨a, b, c, d⟩ := h
  have h1 : (2 : Nat) ^ n ≤ 2 ^ m := Nat.pow_le_pow_right (by omega) hn
  have e3 : ((2 ^ n : Nat) : Int) = (2 : Int) ^ n := by norm_cast
  have e4 : ((2 ^ m : Nat) : Int) = (2 : Int) ^ m := by norm_cast
  exact ⟨by omega, b, by omega, d⟩
theorem natAbs_mul_lt {a b : Int} {n m : Nat} (ha : a.natAbs < 2 ^ n) (hb : b.natAbs < 2 ^ m) : (a * b).natAbs < 2 ^ (n + m) := by
  rw [Int.natAbs_mul, Nat.pow_add]
  exact Nat.mul_lt_mul'' ha hb
theorem Rz_mul {n m : Nat} {p q : Int × Int} (hp : Rz n p) (hq : Rz m q) : Rz (n + m) (mul p q) := by
  obtain ⟨a1, a2, _⟩ := Rz_abs hp
  obtain ⟨b1, b2, _⟩ := Rz_abs hq
  have h := natAbs_mul_lt a2 b2
  have h0 : 0 < p.2 * q.2 := Int.mul_pos hp.2.1 hq.2.1
  have e3 : ((2 ^ (n + m) : Nat) : Int) = (2 : Int) ^ (n + m) := by norm_cast
  exact Rz_rat (natAbs_mul_lt a1 b1) h0 (by omega)
theorem Rz_plus {n m : Nat} {p q : Int × Int} (hp : Rz n p) (hq : Rz m q) : Rz (n + m + 1) (plus p q) := by
  obtain ⟨a1, a2, _⟩ := Rz_abs hp
  obtain ⟨b1, b2, _⟩ := Rz_abs hq
  have h := natAbs_mul_lt a2 b2
  have h1 := natAbs_mul_lt a1 b2
  have h2 := natAbs_mul_lt b1 a2
  rw [Nat.add_comm m n] at h2
  have h0 : 0 < p.2 * q.2 := Int.mul_pos hp.2.1 hq.2.1
  have e3 : ((2 ^ (n + m) : Nat) : Int) = (2 : Int) ^ (n + m) := by norm_cast
  have e4 : (2 : Nat) ^ (n + m + 1) = 2 ^ (n + m) * 2 := Nat.pow_succ ..
  have e5 : (2 : Int) ^ (n + m + 1) = 2 ^ (n + m) * 2 := Int.pow_succ ..
  exact Rz_rat (by omega) h0 (by omega)
theorem k_is_ratio : Keeps C_is_ratio [false] 0 wf_is_ratio := fun ds Q E h => by
  obtain ⟨p, rfl, q⟩ := h
  refine ⟨rfl, ?_⟩
  unfold wf_is_ratio
  walk_at "w"
  refine br (fun _ => ?_) (fun h => by omega)
  walk_at "w"
  refine br (fun h => ?_) (fun h => ?_)
  · walk_at "w"
    have e : decide (((Int.gcd p.1 p.2 : Nat) : Int) = 1) = decide (Int.gcd p.1 p.2 = 1) := by
      congr 1
      apply propext
      omega
    rw [e]
    simpa [h] using q
  · simpa [h] using q
theorem k__law_less : Keeps C__law_less [false, false] 0 wf__law_less := fun ds Q E h => by
  obtain ⟨p, r, rfl, hp, hr, q⟩ := h
  refine ⟨rfl, ?_⟩
  obtain ⟨a1, a2, _⟩ := Rz_abs hp
  obtain ⟨b1, b2, _⟩ := Rz_abs hr
  unfold wf__law_less
  walk_at "w"
  exact ⟨mulOk_of a1 b2 (by decide) (by decide) (by decide), mulOk_of b1 a2 (by decide) (by decide) (by decide), q⟩
theorem k_less : Keeps C_less [false, false] 0 wf_less := k__law_less
theorem k__law_plus : Keeps C__law_plus [false, false] 0 wf__law_plus := fun ds Q E h => by
  obtain ⟨p, r, rfl, hp, hr, q⟩ := h
  refine ⟨rfl, ?_⟩
  obtain ⟨a1, a2, a3⟩ := Rz_abs hp
  obtain ⟨b1, b2, b3⟩ := Rz_abs hr
  unfold wf__law_plus
  walk_at "w"
  refine ⟨mulOk_of a1 b2 (by decide) (by decide) (by decide), mulOk_of b1 a2 (by decide) (by decide) (by decide), mulOk_of a2 b2 (by decide) (by decide) (by decide), Int.mul_ne_zero a3 b3, ?_, q⟩
  exact Nat.lt_of_lt_of_le (natAbs_mul_lt a2 b2) (Nat.pow_le_pow_right (by decide) (by decide))
theorem k_added : Keeps C_added [false, false] 0 wf_added := fun ds Q E h => by
  obtain ⟨p, r, rfl, hp, hr, q⟩ := h
  refine ⟨rfl, ?_⟩
  obtain ⟨a1, a2, a3⟩ := Rz_abs hp
  obtain ⟨b1, b2, b3⟩ := Rz_abs hr
  unfold wf_added
  walk_at "w"
  refine ⟨mulOk_of a1 b2 (by decide) (by decide) (by decide), mulOk_of b1 a2 (by decide) (by decide) (by decide), mulOk_of a2 b2 (by decide) (by decide) (by decide), Int.mul_ne_zero a3 b3, ?_, q⟩
  exact Nat.lt_of_lt_of_le (natAbs_mul_lt a2 b2) (Nat.pow_le_pow_right (by decide) (by decide))
theorem k_times : Keeps C_times [false, false] 0 wf_times := fun ds Q E h => by
  obtain ⟨p, r, rfl, hp, hr, q⟩ := h
  refine ⟨rfl, ?_⟩
  obtain ⟨a1, a2, a3⟩ := Rz_abs hp
  obtain ⟨b1, b2, b3⟩ := Rz_abs hr
  unfold wf_times
  walk_at "w"
  refine ⟨mulOk_of a1 b1 (by decide) (by decide) (by decide), mulOk_of a2 b2 (by decide) (by decide) (by decide), Int.mul_ne_zero a3 b3, ?_, q⟩
  exact Nat.lt_of_lt_of_le (natAbs_mul_lt a2 b2) (Nat.pow_le_pow_right (by decide) (by decide))
theorem k_over : Keeps C_over [false, false] 0 wf_over := fun ds Q E h => by
  obtain ⟨p, r, rfl, hp, hr, hn, q⟩ := h
  refine ⟨rfl, ?_⟩
  obtain ⟨a1, a2, a3⟩ := Rz_abs hp
  obtain ⟨b1, b2, b3⟩ := Rz_abs hr
  unfold wf_over
  walk_at "w"
  refine ⟨mulOk_of a1 b2 (by decide) (by decide) (by decide), mulOk_of a2 b1 (by decide) (by decide) (by decide), Int.mul_ne_zero a3 hn, ?_, q⟩
  exact Nat.lt_of_lt_of_le (natAbs_mul_lt a2 b1) (Nat.pow_le_pow_right (by decide) (by decide))
theorem k_negative : Keeps C_negative [false] 0 wf_negative := fun ds Q E h => by
  obtain ⟨p, rfl, q⟩ := h
  refine ⟨rfl, ?_⟩
  unfold wf_negative
  walk_at "w"
  rw [Int.zero_sub] at q
  exact q
def SumI (s : D) (g : Int × Int) (xs : List D) (ρ : Dl.Env) : Prop := ∃ (t : Int × Int) (ps : List (Int × Int)) (n : Nat) (o : Option D), ρ = [some (.sh s), some (.sh (enc t)), gb o] ∧ xs = ps.map enc ∧
  Rz n t ∧ n + 71 * ps.length ≤ 360 ∧ (∀ p ∈ ps, Rz 70 p) ∧ ps.foldl plus t = g
theorem k__law_sum : Keeps C__law_sum [false] 2 wf__law_sum := fun ds Q E h => by
  obtain ⟨ps, rfl, hl, hp, q⟩ := h
  refine ⟨rfl, ?_⟩
  unfold wf__law_sum
  walk_at "w"
  refine forGo_rule (SumI _ (ps.foldl plus (0, 1))) ?_ ?_ _ _ ⟨(0, 1), ps, 1, none, rfl, rfl, ⟨by decide, by decide, by decide, by decide⟩, by omega, hp, rfl⟩
  · rintro ρ ⟨t, us, n, o, rfl, hx, ht, hn, hu, e⟩
    obtain rfl : us = [] := by simpa using hx.symm
    rw [← e] at q
    walk_at "w"
    exact q
  · rintro x xs ρ K hK ⟨t, us, n, o, rfl, hx, ht, hn, hu, e⟩
    cases us with
    | nil => simp at hx
    | cons u us =>
      simp only [List.map_cons, List.cons.injEq] at hx
      obtain ⟨rfl, rfl⟩ := hx
      rw [List.length_cons] at hn
      have h1 := hu u (List.mem_cons_self ..)
      walk_at "w"
      exact ⟨Rz_mono ht (by omega), Rz_mono h1 (by omega), hK _ ⟨_, us, n + 70 + 1, some (enc u), rfl, rfl, Rz_plus ht h1, by omega, fun p hp => hu p (List.mem_cons_of_mem _ hp), e⟩⟩
theorem k_summed : Keeps C_summed [false] 2 wf_summed := fun ds Q E h => by
  obtain ⟨ps, rfl, hl, hp, q⟩ := h
  refine ⟨rfl, ?_⟩
  unfold wf_summed
  walk_at "w"
  refine forGo_rule (SumI _ (ps.foldl plus (0, 1))) ?_ ?_ _ _ ⟨(0, 1), ps, 1, none, rfl, rfl, ⟨by decide, by decide, by decide, by decide⟩, by omega, hp, rfl⟩
  · rintro ρ ⟨t, us, n, o, rfl, hx, ht, hn, hu, e⟩
    obtain rfl : us = [] := by simpa using hx.symm
    rw [← e] at q
    walk_at "w"
    exact q
  · rintro x xs ρ K hK ⟨t, us, n, o, rfl, hx, ht, hn, hu, e⟩
    cases us with
    | nil => simp at hx
    | cons u us =>
      simp only [List.map_cons, List.cons.injEq] at hx
      obtain ⟨rfl, rfl⟩ := hx
      rw [List.length_cons] at hn
      have h1 := hu u (List.mem_cons_self ..)
      walk_at "w"
      exact ⟨Rz_mono ht (by omega), Rz_mono h1 (by omega), hK _ ⟨_, us, n + 70 + 1, some (enc u), rfl, rfl, Rz_plus ht h1, by omega, fun p hp => hu p (List.mem_cons_of_mem _ hp), e⟩⟩
def WeiI (a b : D) (all : List (Int × Int)) (xs acc : List D) (ρ : Dl.Env) : Prop := ∃ us vs ts : List (Int × Int), ρ = [some (.sh a), some (.sh b), none, none] ∧ xs = zipD (us.map enc) (vs.map enc) ∧ acc = ts.map enc ∧
  us.length = vs.length ∧ (∀ p ∈ us, Rz 30 p) ∧ (∀ p ∈ vs, Rz 30 p) ∧ ts ++ List.zipWith mul us vs = all
theorem zipD_len : ∀ (xs ys : List D), (zipD xs ys).length ≤ xs.length
  | [], _ => by simp [zipD]
  | _ :: _, [] => by simp [zipD]
  | x :: xs, y :: ys => by
    have := zipD_len xs ys
    simp only [zipD, List.length_cons]
    omega
theorem mem_zipWith {f : Int × Int → Int × Int → Int × Int} {P : Int × Int → Prop} : ∀ {ps qs : List (Int × Int)}, (∀ p ∈ ps, ∀ q ∈ qs, P (f p q)) → ∀ r ∈ List.zipWith f ps qs, P r
  | [], _, _, r, hr => by simp at hr
  | _ :: _, [], _, r, hr => by simp at hr
  | p :: ps, q :: qs, h, r, hr => by
    simp only [List.zipWith_cons_cons, List.mem_cons] at hr
    rcases hr with rfl | hr
    · exact h _ (List.mem_cons_self ..) _ (List.mem_cons_self ..)
    · exact mem_zipWith (fun a ha b hb => h a (List.mem_cons_of_mem _ ha) b (List.mem_cons_of_mem _ hb)) r hr
theorem k_weighed : Keeps C_weighed [false, false] 2 wf_weighed := fun ds Q E h => by
  obtain ⟨ps, qs, rfl, hl, h5, hp, hq, q⟩ := h
  refine ⟨rfl, ?_⟩
  unfold wf_weighed
  walk_at "w"
  refine ⟨?_, ?_⟩
  · have h1 := zipD_len (ps.map enc) (qs.map enc)
    simp only [List.length_map] at h1
    show _ ≤ 16777216
    omega
  refine lcGo_rule (WeiI _ _ (List.zipWith mul ps qs)) ?_ ?_ _ _ _ ⟨ps, qs, [], rfl, rfl, rfl, hl, hp, hq, rfl⟩
  · rintro acc ρ ⟨us, vs, ts, rfl, hx, rfl, hl', hu, hv, e⟩
    cases us with
    | cons u us =>
      cases vs with
      | nil => simp at hl'
      | cons v vs => simp [zipD] at hx
    | nil =>
      simp only [List.zipWith_nil_left, List.append_nil] at e
      subst e
      walk_at "w"
      refine ⟨List.zipWith mul ps qs, rfl, by simp; omega, mem_zipWith fun p h1 r h2 => Rz_mono (Rz_mul (hp p h1) (hq r h2)) (by decide), q⟩
  · rintro x xs acc ρ K hK ⟨us, vs, ts, rfl, hx, rfl, hl', hu, hv, e⟩
    cases us with
    | nil => simp [zipD] at hx
    | cons u us =>
      cases vs with
      | nil => simp [zipD] at hx
      | cons v vs =>
        simp only [List.map_cons, zipD, List.cons.injEq] at hx
        obtain ⟨rfl, rfl⟩ := hx
        have h1 := hu u (List.mem_cons_self ..)
        have h2 := hv v (List.mem_cons_self ..)
        walk_at "w"
        refine ⟨Rz_mono h1 (by decide), Rz_mono h2 (by decide), hK _ _ ⟨us, vs, ts ++ [mul u v], rfl, rfl, by simp, by simpa using hl', fun p hp => hu p (List.mem_cons_of_mem _ hp), fun p hp => hv p (List.mem_cons_of_mem _ hp), by simpa using e⟩⟩
def sel (a b : Int × Int) : Int × Int := if lessP a b then b else a
def GreI (s : D) (g : Int × Int) (xs : List D) (ρ : Dl.Env) : Prop := ∃ (t : Int × Int) (ps : List (Int × Int)) (o : Option D), ρ = [some (.sh s), some (.sh (enc t)), gb o] ∧ xs = ps.map enc ∧
  Rz 2000 t ∧ (∀ p ∈ ps, Rz 2000 p) ∧ ps.foldl sel t = g
theorem sel_Rz {n : Nat} {a b : Int × Int} (h1 : Rz n a) (h2 : Rz n b) : Rz n (sel a b) := by
  unfold sel
  split
  · exact h2
  · exact h1
theorem k_greatest : Keeps C_greatest [false] 2 wf_greatest := fun ds Q E h => by
  obtain ⟨p, ps, rfl, hp, q⟩ := h
  refine ⟨rfl, ?_⟩
  unfold wf_greatest
  walk_at "w"
  refine ⟨_, atD0 _ _, ?_⟩
  walk_at "w"
  have e : cutD (List.map enc (p :: ps)) (some 1) none = ps.map enc := by
    simp [cutD, cutIx]
    exact List.take_of_length_le (by simp)
  rw [e]
  refine forGo_rule (GreI _ (ps.foldl sel p)) ?_ ?_ _ _ ⟨p, ps, none, rfl, rfl, hp p (List.mem_cons_self ..), fun q hq => hp q (List.mem_cons_of_mem _ hq), rfl⟩
  · rintro ρ ⟨t, us, o, rfl, hx, ht, hu, e⟩
    obtain rfl : us = [] := by simpa using hx.symm
    walk_at "w"
    have e' : t = ps.foldl sel p := e
    rw [e']
    exact q
  · rintro x xs ρ K hK ⟨t, us, o, rfl, hx, ht, hu, e⟩
    cases us with
    | nil => simp at hx
    | cons u us =>
      simp only [List.map_cons, List.cons.injEq] at hx
      obtain ⟨rfl, rfl⟩ := hx
      have h1 := hu u (List.mem_cons_self ..)
      have h2 : ∀ p ∈ us, Rz 2000 p := fun p hp => hu p (List.mem_cons_of_mem _ hp)
      walk_at "w"
      have e' : us.foldl sel (sel t u) = ps.foldl sel p := e
      refine ⟨ht, h1, fun hb => ?_, fun hb => ?_⟩
      · walk_at "w"
        rw [show sel t u = u by unfold sel; rw [if_pos hb]] at e'
        exact hK _ ⟨u, us, some (enc u), rfl, rfl, h1, h2, e'⟩
      · walk_at "w"
        rw [show sel t u = t by unfold sel; rw [if_neg (by simp [hb])]] at e'
        exact hK _ ⟨t, us, some (enc u), rfl, rfl, ht, h2, e'⟩
theorem Rz_sh {n : Nat} {p : Int × Int} (h : Rz n p) (h0 : 0 < n) (hn : n ≤ 1920) : shOk p.1 ∧ shOk p.2 := by
  obtain ⟨a1, a2, _⟩ := Rz_abs h
  exact ⟨Nat.lt_of_lt_of_le (log2_lt_of a1 h0) hn, Nat.lt_of_lt_of_le (log2_lt_of a2 h0) hn⟩
theorem txt_len_sh {i : Int} (h : shOk i) : (txt i).length ≤ 1921 := by
  unfold txt
  rw [ofString_length]
  exact int_text_length_le (by decide) h
theorem empty_app (x : Str) : Str.empty ++ x = x := by
  show Str.mk (#[] ++ x.cps) = x
  simp
theorem k_ratio_text : Keeps C_ratio_text [false] 0 wf_ratio_text := fun ds Q E h => by
  obtain ⟨p, rfl, hp, q⟩ := h
  refine ⟨rfl, ?_⟩
  obtain ⟨s1, s2⟩ := Rz_sh hp (by decide) (by decide)
  have l1 := txt_len_sh s1
  have l2 := txt_len_sh s2
  unfold wf_ratio_text
  walk_at "w"
  refine br (fun h1 => ?_) (fun h1 => ?_)
  · walk_at "w"
    rw [if_pos h1] at q
    exact ⟨s1, q⟩
  · walk_at "w"
    rw [if_neg h1] at q
    rw [empty_app]
    refine ⟨s1, ?_, ?_, s2, ?_, q⟩
    · show _ ≤ 16777216
      omega
    · show _ ≤ 16777216
      rw [strLen_append, show (Str.ofString "/").length = 1 from rfl]
      omega
    · show _ ≤ 16777216
      rw [strLen_append, strLen_append, show (Str.ofString "/").length = 1 from rfl]
      omega

end K01
set_option maxRecDepth 100000
namespace K01
open PySem Dl
local macro_rules | `(tactic| walk_at "w") => `(tactic| simp only [↓enc0, ↓enc1, ↓encL, ↓c_lless, ↓c_less, ↓c_lplus, ↓c_added, ↓c_times, ↓c_over, ↓c_negative, ↓c_text, ↓c_is, ↓c_is2, ↓c_lratio, ↓c_ratio, ↓c_div,
  ↓lent_nil, ↓lent_none, ↓lent_sh, ↓lent_ow, ↓lent_bo, ↓setE_t, ↓setE_f, ↓free_sh, ↓free_ow, ↓free_none, ↓rdE_0, ↓rdK_0, ↓rdK_s, ↓dat_sh, ↓dat_ow, ↓dat_bo, ↓wV_sh, ↓wV_ow, ↓wV_s, ↓wC_h, ↓wO_h, ↓wOP_h, ↓wB_h, ↓sureK_0, ↓sureK_s, ↓wBL_h, ↓wBR_h, ↓wBB_h, ↓wNil_h, ↓wCons_h, ↓wTup_h, ↓wLst_h, ↓wF_h, ↓wCall_h, ↓lendK_ow, ↓lendK_bo, ↓lendK_s, ↓wCallB_h, ↓exB, ↓exI, ↓exS, ↓exT, ↓exL, ↓exC, ↓exD, ↓exLL, ↓exLT, ↓exAt0, ↓exAt1, ↓exAt2, ↓wTv_h, ↓wAnd_h, ↓wOr_h, ↓wNot_h, ↓wAndV_h, ↓wOrV_h, ↓wNotV_h, ↓wIf_h, ↓wChain_h, ↓wIfS_h, ↓br_t, ↓br_f, ↓br_nt, ↓br_nf, ↓wNext_h, ↓wSeq_h, ↓wBreak_h, ↓wCont_h, ↓wDrop_h, ↓wRet_h, ↓wRetV_h, ↓retK_sh, ↓retK_ow, ↓retK_s, ↓wRetN_h, ↓wNever_h, ↓wRaise_h, ↓gN_h, ↓gK_nt, ↓gK_nf, ↓gK_st, ↓gK_sf, ↓gK_ot, ↓gK_of, ↓gK_gt, ↓gK_gf, ↓gK_s, ↓gNil_h, ↓gCons_h, ↓gTup_h, ↓gIx_h, ↓ixK_s, ↓ixK_ow, ↓ixK_bo, ↓exIx0, ↓exIx1, ↓wAsg_h, ↓wPar_h, ↓isL_ow, ↓isL_bo, ↓sureL_ow, ↓sureL_bo, ↓sureL_s, ↓wApp_h, ↓appK_s, ↓appK_ow, ↓appK_bo, ↓wFor_h, ↓itS_h, ↓itR1_h, ↓itR2_h, ↓itZ_h, ↓exZL, ↓tYes_h, ↓frees_nil, ↓frees_cons, ↓wipe_nil, ↓wipe_cons, ↓back_nil, ↓back_cons, ↓putK_0, ↓putK_s, ↓getK_0, ↓getK_s, ↓backK_nil, ↓backK_cons, ↓wipeK_nil, ↓wipeK_cons, ↓wLc_h, ↓wSl_h, ↓pN_h, ↓pS_h, ↓wFs_h, ↓fs_nil, ↓fs_cons, ↓oAdd_i, ↓oAdd_s, ↓oAdd_l, ↓oAdd_t, ↓oSub_i, ↓oMul_i, ↓oMul_l, ↓oFdiv_i, ↓oMod_i, ↓oPow_i, ↓oNeg_i, ↓oEq_i, ↓oNe_i, ↓oLt_i, ↓oLe_i, ↓oGt_i, ↓oGe_i, ↓oIx_l, ↓oIx_t, ↓oLen_l, ↓oLen_t, ↓oLen_scr, ↓oAbs_i, ↓oInt_i, ↓oInt_b, ↓oMax2_i, ↓oMin2_i, ↓oStr_i, ↓oStr_s, ↓oFmt_i, ↓oFmt_s, ↓oCut_l, ↓oCut_t, ↓oCut_scr, ↓startE_nil, ↓startE_f, ↓startE_t, ↓shortK_nil, ↓shortK_c1, ↓shortK_c2, ↓shortK_c3, ↓shortK_c4, ↓shortK_c5, ↓shortK_c6, ↓free_g, ↓lent_g, ↓oRepr_l, ↓oEq_s, ↓oNe_s,
  ↓List.replicate, ↓List.set_cons_zero, ↓List.set_cons_succ, ↓List.length_cons, ↓List.length_nil, ↓List.length_map, true_and, and_true, eqv_str_self, getE_s, getE_0, isL_s, free_s, rdE_s, ↓lent_g])
/-! the law -/
theorem same_rule {x y : D} {Q : D → Bool → List D → Prop} {E : Exc → Prop} (e : y = x) (hs : Sd 40 1000000 x) (k : Q (.bool true) false []) : Hold (C__law_same [x, y] Q E) .mk :=
  ⟨x, by rw [e], hs, k⟩
theorem Sd_enc {n : Nat} {p : Int × Int} (h : Rz n p) (h0 : 0 < n) (hn : n ≤ 1900) : Sd 3 10000 (enc p) := by
  obtain ⟨a1, a2, _⟩ := Rz_abs h
  exact Sd_mono (Sd_tuple (SdA_cons (Sd_int a1 h0 (by omega)) (SdA_cons (Sd_int a2 h0 (by omega)) (SdA_nil 0)))) (by decide) (by omega)
theorem Sd_b (b : Bool) : Sd 3 10000 (.bool b) := Sd_mono (Sd_bool b) (by decide) (by decide)
theorem pick {a b r : Int} (h0 : 0 ≤ r) (h1 : r < 2) (ha : a ≠ 0 ∧ a.natAbs < 100) (hb : b ≠ 0 ∧ b.natAbs < 100) : ∃ x : Int, atD [PyData.int a, PyData.int b] r = some (.int x) ∧ x ≠ 0 ∧ x.natAbs < 100 := by
  rcases (by omega : r = 0 ∨ r = 1) with rfl | rfl
  · exact ⟨a, atD0 _ _, ha⟩
  · exact ⟨b, atD1 _ _ _, hb⟩
theorem is_t {n : Nat} {p : Int × Int} (h : Rz n p) : (decide (1 ≤ p.2) && decide (Int.gcd p.1 p.2 = 1)) = true := by
  simp [h.2.2.2]
  exact h.2.1
theorem is_f1 (p : Int × Int) : (decide (1 ≤ 2 * p.2) && decide (Int.gcd (2 * p.1) (2 * p.2) = 1)) = false := by
  rw [Int.gcd_mul_left]
  simp
  omega
theorem sum_Rz {rows : List (Int × Int)} (hl : rows.length ≤ 5) (h : ∀ p ∈ rows, Rz 30 p) : Rz 400 (rows.foldl plus (0, 1)) := by
  have H : ∀ (rs : List (Int × Int)) (t : Int × Int) (n : Nat), Rz n t → (∀ p ∈ rs, Rz 30 p) → Rz (n + 31 * rs.length) (rs.foldl plus t) := by
    intro rs
    induction rs with
    | nil => intro t n ht _; exact ht
    | cons r rs ih =>
      intro t n ht hr
      have h1 := ih (plus t r) (n + 30 + 1) (Rz_plus ht (hr r (List.mem_cons_self ..))) fun p hp => hr p (List.mem_cons_of_mem _ hp)
      exact Rz_mono h1 (by rw [List.length_cons]; omega)
  exact Rz_mono (H rows (0, 1) 1 ⟨by decide, by decide, by decide, by decide⟩ h) (by omega)
theorem txt_cps (i : Int) : ∀ c ∈ (txt i).cps.toList, c < 16 ^ 8 := by
  intro c hc
  by_cases h : c < 16 ^ 8
  · exact h
  · exact absurd hc (PyProof.Rows.int_text_free' c ⟨by omega, .inr (by omega)⟩ i)
theorem app_cps {x y : Str} (hx : ∀ c ∈ x.cps.toList, c < 16 ^ 8) (hy : ∀ c ∈ y.cps.toList, c < 16 ^ 8) : ∀ c ∈ (x ++ y).cps.toList, c < 16 ^ 8 := by
  intro c hc
  have e : (x ++ y).cps = x.cps ++ y.cps := rfl
  rw [e, Array.toList_append] at hc
  rcases List.mem_append.mp hc with h | h
  · exact hx c h
  · exact hy c h
theorem Sd_txt1 {i : Int} (h : shOk i) : Sd 40 1000000 (.str (txt i)) :=
  Sd_mono (Sd_str (txt_cps i) (txt_len_sh h)) (by decide) (by decide)
theorem Sd_txt2 {i j : Int} (h : shOk i) (h' : shOk j) : Sd 40 1000000 (.str (txt i ++ Str.ofString "/" ++ txt j)) := by
  have l1 := txt_len_sh h
  have l2 := txt_len_sh h'
  refine Sd_mono (Sd_str (n := 4000) ?_ ?_) (by decide) (by decide)
  · exact app_cps (app_cps (txt_cps i) (by decide)) (txt_cps j)
  · rw [strLen_append, strLen_append, show (Str.ofString "/").length = 1 from rfl]
    omega
theorem fdiv_le (a g : Int) (h0 : g ≠ 0) (hd : g ∣ a) : (a.fdiv g).natAbs ≤ a.natAbs := by
  obtain ⟨k, rfl⟩ := hd
  rw [Int.mul_comm, Int.mul_fdiv_cancel _ h0, Int.natAbs_mul]
  exact Nat.le_mul_of_pos_right _ (by omega)
theorem gg_dvd (t b : Int) : gg t b ∣ t ∧ gg t b ∣ b := by
  have d1 : (Int.gcd t b : Int) ∣ t := Int.gcd_dvd_left ..
  have d2 : (Int.gcd t b : Int) ∣ b := Int.gcd_dvd_right ..
  unfold gg
  split
  · rw [Int.zero_sub]
    exact ⟨Int.neg_dvd.mpr d1, Int.neg_dvd.mpr d2⟩
  · exact ⟨d1, d2⟩
theorem Sd_pair {a b : Int} {n : Nat} (ha : a.natAbs < 2 ^ n) (hb : b.natAbs < 2 ^ n) (h0 : 0 < n) (hn : n ≤ 1900) : Sd 3 10000 (enc (a, b)) :=
  Sd_mono (Sd_tuple (SdA_cons (Sd_int ha h0 (by omega)) (SdA_cons (Sd_int hb h0 (by omega)) (SdA_nil 0)))) (by decide) (by omega)
theorem Sd_ratG {t b : Int} {n : Nat} (ht : t.natAbs < 2 ^ n) (hb : b.natAbs < 2 ^ n) (hz : b ≠ 0) (h0 : 0 < n) (hn : n ≤ 900) : Sd 3 10000 (enc (rat t b)) := by
  obtain ⟨g1, _⟩ := gg_ok (t := t) hz (Nat.lt_of_lt_of_le hb (Nat.pow_le_pow_right (by decide) (by omega)))
  obtain ⟨d1, d2⟩ := gg_dvd t b
  exact Sd_pair (Nat.lt_of_le_of_lt (fdiv_le t _ g1 d1) ht) (Nat.lt_of_le_of_lt (fdiv_le b _ g1 d2) hb) h0 (by omega)
theorem Sd_rat {t b : Int} (ht : t.natAbs < 1000) (h0 : b ≠ 0) (hb : b.natAbs < 100) : Sd 3 10000 (enc (rat t b)) :=
  Sd_ratG (n := 10) (by omega) (by omega) h0 (by decide) (by decide)
theorem Sd_over {p q : Int × Int} (hp : Rz 30 p) (hq : Rz 30 q) (h0 : q.1 ≠ 0) : Sd 3 10000 (enc (rat (p.1 * q.2) (p.2 * q.1))) := by
  obtain ⟨a1, a2, a3⟩ := Rz_abs hp
  obtain ⟨g1, g2, g3⟩ := Rz_abs hq
  exact Sd_ratG (natAbs_mul_lt a1 g2) (natAbs_mul_lt a2 g1) (Int.mul_ne_zero a3 h0) (by decide) (by decide)
theorem Sd_neg {p : Int × Int} (hp : Rz 30 p) : Sd 3 10000 (enc (0 - p.1, p.2)) := by
  obtain ⟨a1, a2, a3⟩ := Rz_abs hp
  exact Sd_pair (n := 30) (by omega) a2 (by decide) (by decide)
def LawI (s : D) (xs : List D) (ρ : Dl.Env) : Prop := ∃ (d : D) (o2 o3 o4 o5 o6 o7 o8 o9 o10 o11 o12 o13 o14 : Option D),
  ρ = [some (.sh s), some (.ow d), gb o2, gb o3, gb o4, gb o5, gb o6, gb o7, gb o8, gb o9, gb o10, gb o11, gb o12, gb o13, gb o14] ∧ StB (100 * xs.length) d
theorem k_law : Keeps C_law [false] 14 wf_law := fun ds Q E h => by
  obtain ⟨ns, rfl, ⟨hl, hb⟩, q⟩ := h
  refine ⟨rfl, ?_⟩
  unfold wf_law
  walk_at "w"
  refine ⟨ns, rfl, hl, fun ms hm hml hms => ?_⟩
  walk_at "w"
  refine ⟨⟨by decide, by decide⟩, ?_⟩
  refine forGo_rule (LawI (scrD (ns.map PyData.int))) ?_ ?_ _ _ ⟨_, none, none, none, none, none, none, none, none, none, none, none, none, none, rfl, ms, 0, rfl, hm, hml, hms, by decide, by simp [rangeL_length]⟩
  · rintro ρ ⟨d, o2, o3, o4, o5, o6, o7, o8, o9, o10, o11, o12, o13, o14, rfl, hs⟩
    walk_at "w"
    exact q _
  · rintro x xs ρ K hK ⟨d, o2, o3, o4, o5, o6, o7, o8, o9, o10, o11, o12, o13, o14, rfl, hs⟩
    rw [List.length_cons] at hs
    walk_at "w"
    refine next_rule hs (by omega) (by decide) fun d r hs t0 t1 => ?_
    walk_at "w"
    refine next_rule hs (by omega) (by decide) fun d r1 hs b0 b1 => ?_
    walk_at "w"
    refine next_rule hs (by omega) (by decide) fun d r2 hs c0 c1 => ?_
    walk_at "w"
    refine next_rule hs (by omega) (by decide) fun d r3 hs e0 e1 => ?_
    walk_at "w"
    obtain ⟨bl, eb, hbl⟩ := pick (a := 1 + r1) (b := 0 - 1 - r2) e0 e1 ⟨by omega, by omega⟩ ⟨by omega, by omega⟩
    refine ⟨_, eb, ?_⟩
    walk_at "w"
    refine drawn_rule hs (by omega) fun d one hs h1 => ?_
    walk_at "w"
    refine drawn_rule hs (by omega) fun d oth hs h2 => ?_
    walk_at "w"
    refine next_rule hs (by omega) (by decide) fun d r4 hs f0 f1 => ?_
    walk_at "w"
    have er : (1 + r4).toNat ≤ 5 ∧ 1 ≤ (1 + r4).toNat := by omega
    refine ⟨⟨by omega, by omega⟩, by rw [shortL, rangeL_length]; show _ ≤ 16777216; omega, ?_⟩
    generalize (1 + r4).toNat = m at *
    refine lcGo_rule (fun xs' acc ρ => ∃ (d : D) (rows : List (Int × Int)), ρ = [some (.sh (scrD (ns.map PyData.int))), some (.ow d), some (.sh x), some (.sh (.int (r - 450))), some (.sh (.int bl)), some (.sh (enc one)), some (.sh (enc oth)), gb o7, gb o8, gb o9, gb o10, gb o11, none, gb o13, gb o14] ∧
      acc = rows.map enc ∧ (∀ p ∈ rows, Rz 30 p) ∧ rows.length + xs'.length = m ∧ StB (100 * xs.length + 60 + 3 * xs'.length) d) ?_ ?_ _ _ _
      ⟨d, [], rfl, rfl, (by intro p hp; simp at hp), by rw [rangeL_length]; simp, StB_mono hs (by rw [rangeL_length]; omega)⟩
    · rintro acc ρ ⟨d, rows, rfl, rfl, hR, hRl, hs⟩
      have hRl : rows.length = m := by simpa using hRl
      have hs : StB (100 * xs.length + 60) d := by simpa using hs
      walk_at "w"
      refine ⟨by show List.length _ ≤ 16777216; rw [List.length_map]; omega, ?_⟩
      refine lcGo_rule (fun xs' acc ρ => ∃ (d : D) (more : List (Int × Int)), ρ = [some (.sh (scrD (ns.map PyData.int))), some (.ow d), some (.sh x), some (.sh (.int (r - 450))), some (.sh (.int bl)), some (.sh (enc one)), some (.sh (enc oth)), some (.sh (.list (rows.map enc))), gb o8, gb o9, gb o10, gb o11, gb o12, gb o13, none] ∧
        acc = more.map enc ∧ (∀ p ∈ more, Rz 30 p) ∧ more.length + xs'.length = m ∧ StB (100 * xs.length + 3 * xs'.length) d) ?_ ?_ _ _ _
        ⟨d, [], rfl, rfl, (by intro p hp; simp at hp), by rw [List.length_map]; simpa using hRl, StB_mono hs (by rw [List.length_map]; omega)⟩
      rotate_left
      · rintro y ys acc ρ K2 hK2 ⟨d, more, rfl, rfl, hR, hRl, hs⟩
        rw [List.length_cons] at hRl hs
        walk_at "w"
        refine drawn_rule hs (by omega) fun d p hs hp => ?_
        walk_at "w"
        refine hK2 _ _ ⟨d, more ++ [p], rfl, by simp, ?_, by simp; omega, StB_mono hs (by omega)⟩
        intro z hz
        rcases List.mem_append.mp hz with hz | hz
        · exact hR z hz
        · rw [List.mem_singleton.mp hz]; exact hp
      rintro acc ρ ⟨d, more, rfl, rfl, hM, hMl, hs⟩
      have hMl : more.length = m := by simpa using hMl
      have hs : StB (100 * xs.length) d := by simpa using hs
      walk_at "w"
      have hb2 : bl.natAbs < 2 ^ 1000 := Nat.lt_of_lt_of_le hbl.2 (by decide)
      refine ⟨hbl.1, hb2, .inl ⟨by decide, by decide⟩, .inl ⟨by decide, by decide⟩, hbl.1, hb2, ?_⟩
      refine same_rule (by rw [is_t h1, is_f1 one]; rfl) ?_ ?_
      · have hbR : Sd 3 10000 (enc (rat (r - 450) bl)) := Sd_rat (by omega) hbl.1 (by omega)
        exact Sd_mono (Sd_list (SdA_cons hbR (SdA_cons (Sd_b _) (SdA_cons (Sd_b _) (SdA_cons (Sd_b _) (SdA_cons (Sd_b _) (SdA_nil _))))))) (by decide) (by decide)
      walk_at "w"
      obtain ⟨a1, a2, a3⟩ := Rz_abs h1
      obtain ⟨g1, g2, g3⟩ := Rz_abs h2
      have p4 := Rz_mono h1 (m := 400) (by decide)
      have q4 := Rz_mono h2 (m := 400) (by decide)
      have p2 := Rz_mono h1 (m := 2000) (by decide)
      have q2 := Rz_mono h2 (m := 2000) (by decide)
      have m22 := mulOk_of a2 g2 (by decide) (by decide) (by decide)
      have m11 := mulOk_of a1 g1 (by decide) (by decide) (by decide)
      have m12 := mulOk_of a1 g2 (by decide) (by decide) (by decide)
      have m21 := mulOk_of a2 g1 (by decide) (by decide) (by decide)
      have hbb : (one.2 * oth.2).natAbs < 2 ^ 1000 := Nat.lt_of_lt_of_le (natAbs_mul_lt a2 g2) (Nat.pow_le_pow_right (by decide) (by decide))
      have hbc : (one.2 * oth.1).natAbs < 2 ^ 1000 := Nat.lt_of_lt_of_le (natAbs_mul_lt a2 g1) (Nat.pow_le_pow_right (by decide) (by decide))
      refine ⟨p4, q4, m11, m22, Int.mul_ne_zero a3 g3, hbb, p2, q2, p4, q4, p4, q4, p2, q2, ?_⟩
      refine same_rule rfl ?_ ?_
      · exact Sd_mono (Sd_list (SdA_cons (Sd_enc (Rz_plus h1 h2) (by decide) (by decide)) (SdA_cons (Sd_neg h1) (SdA_cons (Sd_enc (Rz_mul h1 h2) (by decide) (by decide)) (SdA_cons (Sd_b _) (SdA_nil _)))))) (by decide) (by decide)
      walk_at "w"
      refine brn (fun h0 => ?b1) (fun h0 => ?b2)
      case' b1 =>
        walk_at "w"
        refine ⟨p4, q4, h0, m12, m21, Int.mul_ne_zero a3 h0, hbc, ?_⟩
        refine same_rule rfl (Sd_mono (Sd_over h1 h2 h0) (by decide) (by decide)) ?_
        walk_at "w"
      case' b2 => walk_at "w"
      all_goals
        obtain ⟨w, rw', rfl⟩ : ∃ w rw', rows = w :: rw' := by
          cases rows with
          | nil => simp at hRl; omega
          | cons w rows => exact ⟨w, rows, rfl⟩
        refine ⟨_, atD0 _ _, ?_⟩
        walk_at "w"
        have hw := hR w (List.mem_cons_self ..)
        have hrl : rw'.length + 1 = m := by simpa using hRl
        clear hb2 hbb hbc
        refine ⟨⟨by omega, by omega⟩, ?_⟩
        refine forGo_rule (fun xs' ρ => ∃ (b t : Int × Int) (us vs pre prm : List (Int × Int)) (n : Nat) (o12 : Option D), ρ = [some (.sh (scrD (ns.map PyData.int))), some (.ow d), some (.sh x), some (.sh (.int (r - 450))), some (.sh (.int bl)), some (.sh (enc one)), some (.sh (enc oth)), some (.sh (.list ((w :: rw').map enc))), some (.ow (.list (more.map enc))), some (.sh (PyData.list
                  [enc (plus one oth), PyData.tuple [PyData.int (0 - one.fst), PyData.int one.snd],
                    enc (rat (one.fst * oth.fst) (one.snd * oth.snd)), PyData.bool (lessP one oth)])),
              some (.sh (enc b)), some (.sh (enc t)), gb o12, gb o13, gb o14] ∧ xs' = rangeL pre.length us.length ∧ w :: rw' = pre ++ us ∧ more = prm ++ vs ∧ pre.length = prm.length ∧ us.length = vs.length ∧
              Rz 30 b ∧ Rz n t ∧ n + 71 * us.length ≤ 360 ∧ us.foldl sel b = rw'.foldl sel w ∧ (List.zipWith mul us vs).foldl plus t = (List.zipWith mul (w :: rw') more).foldl plus (0, 1)) ?_ ?_ _ _ ?_
        rotate_left
        · rintro y ys ρ K2 hK2 ⟨b, t, us, vs, pre, prm, n, o12, rfl, hy, hpre, hprm, hlp, hluv, hb30, hn, hnu, e1', e2'⟩
          cases us with
          | nil => simp [rangeL_zero] at hy
          | cons u us =>
          cases vs with
          | nil => simp at hluv
          | cons v vs =>
          rw [List.length_cons, rangeL_succ, List.cons.injEq] at hy
          obtain ⟨rfl, rfl⟩ := hy
          have hu : Rz 30 u := hR u (by rw [hpre]; simp)
          have hv : Rz 30 v := hM v (by rw [hprm]; simp)
          have i1 : atD (List.map enc (w :: rw')) (pre.length : Int) = some (enc u) := by rw [atD_nat, hpre]; simp
          have i2 : atD (List.map enc more) (pre.length : Int) = some (enc v) := by rw [atD_nat, hprm, hlp]; simp
          walk_at "w"
          refine ⟨_, i1, ?_⟩
          refine ⟨_, i1, ?_⟩
          walk_at "w"
          have ib : atD [enc b, enc u] (if lessP b u = true then 1 else 0) = some (enc (sel b u)) := by
            unfold sel
            by_cases hlt : lessP b u = true
            · rw [if_pos hlt, if_pos hlt, atD1]
            · rw [if_neg hlt, if_neg hlt, atD0]
          refine ⟨Rz_mono hb30 (by decide), Rz_mono hu (by decide), _, ib, ?_⟩
          walk_at "w"
          refine ⟨_, i1, ?_⟩
          walk_at "w"
          refine ⟨_, i2, ?_⟩
          walk_at "w"
          obtain ⟨u1, u2, u3⟩ := Rz_abs hu
          obtain ⟨v1, v2, v3⟩ := Rz_abs hv
          refine ⟨mulOk_of u1 v1 (by decide) (by decide) (by decide), _, i1, ?_⟩
          walk_at "w"
          refine ⟨_, i2, ?_⟩
          walk_at "w"
          have hbd : (u.2 * v.2).natAbs < 2 ^ 1000 := Nat.lt_of_lt_of_le (natAbs_mul_lt u2 v2) (Nat.pow_le_pow_right (by decide) (by decide))
          have huv := Rz_mul hu hv
          refine ⟨mulOk_of u2 v2 (by decide) (by decide) (by decide), Int.mul_ne_zero u3 v3, hbd, Rz_mono hn (by omega), Rz_mono huv (by decide), ?_⟩
          clear hbd
          refine hK2 _ ⟨sel b u, plus t (mul u v), us, vs, pre ++ [u], prm ++ [v], n + 60 + 1, some (.int pre.length), rfl, by simp, by simp [hpre], by simp [hprm], by simp [hlp], by simpa using hluv, sel_Rz hb30 hu, Rz_plus hn huv, ?_, e1', e2'⟩
          rw [List.length_cons] at hnu
          omega
        · exact ⟨w, (0, 1), w :: rw', more, [], [], 1, _, rfl, by simp, rfl, rfl, rfl, by omega, hw, ⟨by decide, by decide, by decide, by decide⟩, by omega, by simp [sel, lessP], rfl⟩
        · rintro ρ ⟨b, t, us, vs, pre, prm, n, o12, rfl, hy, hpre, hprm, hlp, hluv, hb30, hn, hnu, e1', e2'⟩
          cases us with
          | cons u us => simp [rangeL_succ] at hy
          | nil =>
          cases vs with
          | cons v vs => simp at hluv
          | nil =>
          have e1 : b = rw'.foldl sel w := e1'
          have e2 : t = (List.zipWith mul (w :: rw') more).foldl plus (0, 1) := e2'
          walk_at "w"
          subst e1 e2
          have hRR : ∀ p ∈ w :: rw', Rz 2000 p := fun p hp => Rz_mono (hR p hp) (by decide)
          have hlw : (w :: rw').length ≤ 5 := by rw [List.length_cons]; omega
          refine ⟨w, rw', rfl, hRR, ?_⟩
          walk_at "w"
          refine ⟨w :: rw', rfl, hlw, fun p hp => Rz_mono (hR p hp) (by decide), ?_⟩
          walk_at "w"
          refine ⟨w :: rw', more, rfl, by rw [List.length_cons]; omega, hlw, hR, hM, ?_⟩
          walk_at "w"
          refine ⟨w :: rw', rfl, hlw, fun p hp => Rz_mono (hR p hp) (by decide), ?_⟩
          walk_at "w"
          refine same_rule rfl ?_ ?_
          · exact Sd_mono (Sd_list (SdA_cons (Sd_enc hb30 (by decide) (by decide)) (SdA_cons (Sd_enc (sum_Rz hlw hR) (by decide) (by decide)) (SdA_cons (Sd_enc (Rz_mono hn (show n ≤ 400 by omega)) (by decide) (by decide)) (SdA_nil _))))) (by decide) (by decide)
          walk_at "w"
          have p1000 := Rz_mono h1 (m := 1000) (by decide)
          obtain ⟨s1, s2⟩ := Rz_sh h1 (by decide) (by decide)
          have l1 := txt_len_sh s1
          have l2 := txt_len_sh s2
          refine ⟨s1, brn (fun h0 => ?_) (fun h0 => ?_)⟩
          · walk_at "w"
            refine ⟨?_, s2, ?_, p1000, ?_⟩
            · show _ ≤ 16777216
              rw [show (Str.ofString "/").length = 1 from rfl]
              omega
            · show _ ≤ 16777216
              rw [strLen_append, show (Str.ofString "/").length = 1 from rfl]
              omega
            rw [if_neg h0]
            refine same_rule rfl (Sd_txt2 s1 s2) ?_
            walk_at "w"
            exact hK _ ⟨d, some x, some (.int (r - 450)), some (.int bl), some (enc one), some (enc oth), some (.list ((w :: rw').map enc)), some (.list (more.map enc)), some _, some _, some _, o12, some _, o14, rfl, hs⟩
          · walk_at "w"
            refine ⟨p1000, ?_⟩
            rw [if_pos h0]
            refine same_rule rfl (Sd_txt1 s1) ?_
            walk_at "w"
            exact hK _ ⟨d, some x, some (.int (r - 450)), some (.int bl), some (enc one), some (enc oth), some (.list ((w :: rw').map enc)), some (.list (more.map enc)), some _, some _, some _, o12, some _, o14, rfl, hs⟩
    · rintro y ys acc ρ K2 hK2 ⟨d, rows, rfl, rfl, hR, hRl, hs⟩
      rw [List.length_cons] at hRl hs
      walk_at "w"
      refine drawn_rule hs (by omega) fun d p hs hp => ?_
      walk_at "w"
      refine hK2 _ _ ⟨d, rows ++ [p], rfl, by simp, ?_, by simp; omega, StB_mono hs (by omega)⟩
      intro z hz
      rcases List.mem_append.mp hz with hz | hz
      · exact hR z hz
      · rw [List.mem_singleton.mp hz]; exact hp
end K01
set_option maxRecDepth 100000
set_option maxHeartbeats 4000000
/-! K01d: the derivations, printed by gen.py. -/
namespace K01
open PySem PySem.Spec L2 Dl
def topS (i : Nat) : Stmt := PySem.Challenge.pw_allwatched_k01_ratios.main.body.getD i (.Pass ⟨0, 0, 0, 0⟩)
abbrev s__law_stream : Stmt := topS 22
abbrev N__law_stream : List Str := ["script", "numbers", "cell", "rest", "k", "stirred"]
theorem sc__law_stream : FnScope N__law_stream ["script"] (defScope s__law_stream) := ⟨rfl, rfl, rfl, by decide +kernel, rfl, by decide +kernel, by decide +kernel⟩
abbrev s__law_next : Stmt := topS 23
abbrev N__law_next : List Str := ["state", "many", "turn"]
theorem sc__law_next : FnScope N__law_next ["state", "many"] (defScope s__law_next) := ⟨rfl, rfl, rfl, by decide +kernel, rfl, by decide +kernel, by decide +kernel⟩
abbrev s__law_divisor : Stmt := topS 25
abbrev N__law_divisor : List Str := ["first", "second"]
theorem sc__law_divisor : FnScope N__law_divisor ["first", "second"] (defScope s__law_divisor) := ⟨rfl, rfl, rfl, by decide +kernel, rfl, by decide +kernel, by decide +kernel⟩
abbrev s__law_ratio : Stmt := topS 26
abbrev N__law_ratio : List Str := ["top", "below", "common"]
theorem sc__law_ratio : FnScope N__law_ratio ["top", "below"] (defScope s__law_ratio) := ⟨rfl, rfl, rfl, by decide +kernel, rfl, by decide +kernel, by decide +kernel⟩
abbrev s__law_drawn : Stmt := topS 31
abbrev N__law_drawn : List Str := ["state", "top"]
theorem sc__law_drawn : FnScope N__law_drawn ["state"] (defScope s__law_drawn) := ⟨rfl, rfl, rfl, by decide +kernel, rfl, by decide +kernel, by decide +kernel⟩
abbrev s__law_same : Stmt := topS 21
abbrev N__law_same : List Str := ["told", "due"]
theorem sc__law_same : FnScope N__law_same ["told", "due"] (defScope s__law_same) := ⟨rfl, rfl, rfl, by decide +kernel, rfl, by decide +kernel, by decide +kernel⟩
abbrev s_divisor : Stmt := topS 8
abbrev N_divisor : List Str := ["first", "second"]
theorem sc_divisor : FnScope N_divisor ["first", "second"] (defScope s_divisor) := ⟨rfl, rfl, rfl, by decide +kernel, rfl, by decide +kernel, by decide +kernel⟩
abbrev s_is_ratio : Stmt := topS 10
abbrev N_is_ratio : List Str := ["value"]
theorem sc_is_ratio : FnScope N_is_ratio ["value"] (defScope s_is_ratio) := ⟨rfl, rfl, rfl, by decide +kernel, rfl, by decide +kernel, by decide +kernel⟩
abbrev s_ratio : Stmt := topS 9
abbrev N_ratio : List Str := ["top", "below", "common"]
theorem sc_ratio : FnScope N_ratio ["top", "below"] (defScope s_ratio) := ⟨rfl, rfl, rfl, by decide +kernel, rfl, by decide +kernel, by decide +kernel⟩
abbrev s__law_less : Stmt := topS 29
abbrev N__law_less : List Str := ["first", "second"]
theorem sc__law_less : FnScope N__law_less ["first", "second"] (defScope s__law_less) := ⟨rfl, rfl, rfl, by decide +kernel, rfl, by decide +kernel, by decide +kernel⟩
abbrev s__law_plus : Stmt := topS 27
abbrev N__law_plus : List Str := ["first", "second"]
theorem sc__law_plus : FnScope N__law_plus ["first", "second"] (defScope s__law_plus) := ⟨rfl, rfl, rfl, by decide +kernel, rfl, by decide +kernel, by decide +kernel⟩
abbrev s_less : Stmt := topS 15
abbrev N_less : List Str := ["first", "second"]
theorem sc_less : FnScope N_less ["first", "second"] (defScope s_less) := ⟨rfl, rfl, rfl, by decide +kernel, rfl, by decide +kernel, by decide +kernel⟩
abbrev s_times : Stmt := topS 13
abbrev N_times : List Str := ["first", "second"]
theorem sc_times : FnScope N_times ["first", "second"] (defScope s_times) := ⟨rfl, rfl, rfl, by decide +kernel, rfl, by decide +kernel, by decide +kernel⟩
abbrev s_negative : Stmt := topS 12
abbrev N_negative : List Str := ["value"]
theorem sc_negative : FnScope N_negative ["value"] (defScope s_negative) := ⟨rfl, rfl, rfl, by decide +kernel, rfl, by decide +kernel, by decide +kernel⟩
abbrev s_added : Stmt := topS 11
abbrev N_added : List Str := ["first", "second"]
theorem sc_added : FnScope N_added ["first", "second"] (defScope s_added) := ⟨rfl, rfl, rfl, by decide +kernel, rfl, by decide +kernel, by decide +kernel⟩
abbrev s_over : Stmt := topS 14
abbrev N_over : List Str := ["first", "second"]
theorem sc_over : FnScope N_over ["first", "second"] (defScope s_over) := ⟨rfl, rfl, rfl, by decide +kernel, rfl, by decide +kernel, by decide +kernel⟩
abbrev s__law_sum : Stmt := topS 28
abbrev N__law_sum : List Str := ["values", "total", "value"]
theorem sc__law_sum : FnScope N__law_sum ["values"] (defScope s__law_sum) := ⟨rfl, rfl, rfl, by decide +kernel, rfl, by decide +kernel, by decide +kernel⟩
abbrev s_summed : Stmt := topS 17
abbrev N_summed : List Str := ["values", "total", "value"]
theorem sc_summed : FnScope N_summed ["values"] (defScope s_summed) := ⟨rfl, rfl, rfl, by decide +kernel, rfl, by decide +kernel, by decide +kernel⟩
abbrev s_weighed : Stmt := topS 18
abbrev N_weighed : List Str := ["values", "others", "value", "other"]
theorem sc_weighed : FnScope N_weighed ["values", "others"] (defScope s_weighed) := ⟨rfl, rfl, rfl, by decide +kernel, rfl, by decide +kernel, by decide +kernel⟩
abbrev s_greatest : Stmt := topS 16
abbrev N_greatest : List Str := ["values", "best", "value"]
theorem sc_greatest : FnScope N_greatest ["values"] (defScope s_greatest) := ⟨rfl, rfl, rfl, by decide +kernel, rfl, by decide +kernel, by decide +kernel⟩
abbrev s_ratio_text : Stmt := topS 19
abbrev N_ratio_text : List Str := ["value"]
theorem sc_ratio_text : FnScope N_ratio_text ["value"] (defScope s_ratio_text) := ⟨rfl, rfl, rfl, by decide +kernel, rfl, by decide +kernel, by decide +kernel⟩
abbrev s_law : Stmt := topS 32
abbrev N_law : List Str := ["script", "state", "turn", "top", "below", "one", "other", "rows", "more", "due", "best", "total", "k", "text", "row"]
theorem sc_law : FnScope N_law ["script"] (defScope s_law) := ⟨rfl, rfl, rfl, by decide +kernel, rfl, by decide +kernel, by decide +kernel⟩
/-- what the top leaves -/
structure Tops (K : PySem.W.Frag) (mg : Str → Option Value) where
  f__law_stream : Addr
  d__law_stream : FuncData
  F__law_stream : Fun K "_law_stream" "_law_stream" s__law_stream f__law_stream d__law_stream
  g__law_stream : mg "_law_stream" = some (.ref f__law_stream)
  b__law_stream : Binds K d__law_stream ["script"] []
  f__law_next : Addr
  d__law_next : FuncData
  F__law_next : Fun K "_law_next" "_law_next" s__law_next f__law_next d__law_next
  g__law_next : mg "_law_next" = some (.ref f__law_next)
  b__law_next : Binds K d__law_next ["state", "many"] []
  f__law_divisor : Addr
  d__law_divisor : FuncData
  F__law_divisor : Fun K "_law_divisor" "_law_divisor" s__law_divisor f__law_divisor d__law_divisor
  g__law_divisor : mg "_law_divisor" = some (.ref f__law_divisor)
  b__law_divisor : Binds K d__law_divisor ["first", "second"] []
  f__law_ratio : Addr
  d__law_ratio : FuncData
  F__law_ratio : Fun K "_law_ratio" "_law_ratio" s__law_ratio f__law_ratio d__law_ratio
  g__law_ratio : mg "_law_ratio" = some (.ref f__law_ratio)
  b__law_ratio : Binds K d__law_ratio ["top", "below"] []
  f__law_drawn : Addr
  d__law_drawn : FuncData
  F__law_drawn : Fun K "_law_drawn" "_law_drawn" s__law_drawn f__law_drawn d__law_drawn
  g__law_drawn : mg "_law_drawn" = some (.ref f__law_drawn)
  b__law_drawn : Binds K d__law_drawn ["state"] []
  f__law_same : Addr
  d__law_same : FuncData
  F__law_same : Fun K "_law_same" "_law_same" s__law_same f__law_same d__law_same
  g__law_same : mg "_law_same" = some (.ref f__law_same)
  b__law_same : Binds K d__law_same ["told", "due"] []
  f_divisor : Addr
  d_divisor : FuncData
  F_divisor : Fun K "divisor" "divisor" s_divisor f_divisor d_divisor
  g_divisor : mg "divisor" = some (.ref f_divisor)
  b_divisor : Binds K d_divisor ["first", "second"] []
  f_is_ratio : Addr
  d_is_ratio : FuncData
  F_is_ratio : Fun K "is_ratio" "is_ratio" s_is_ratio f_is_ratio d_is_ratio
  g_is_ratio : mg "is_ratio" = some (.ref f_is_ratio)
  b_is_ratio : Binds K d_is_ratio ["value"] []
  f_ratio : Addr
  d_ratio : FuncData
  F_ratio : Fun K "ratio" "ratio" s_ratio f_ratio d_ratio
  g_ratio : mg "ratio" = some (.ref f_ratio)
  b_ratio : Binds K d_ratio ["top", "below"] []
  f__law_less : Addr
  d__law_less : FuncData
  F__law_less : Fun K "_law_less" "_law_less" s__law_less f__law_less d__law_less
  g__law_less : mg "_law_less" = some (.ref f__law_less)
  b__law_less : Binds K d__law_less ["first", "second"] []
  f__law_plus : Addr
  d__law_plus : FuncData
  F__law_plus : Fun K "_law_plus" "_law_plus" s__law_plus f__law_plus d__law_plus
  g__law_plus : mg "_law_plus" = some (.ref f__law_plus)
  b__law_plus : Binds K d__law_plus ["first", "second"] []
  f_less : Addr
  d_less : FuncData
  F_less : Fun K "less" "less" s_less f_less d_less
  g_less : mg "less" = some (.ref f_less)
  b_less : Binds K d_less ["first", "second"] []
  f_times : Addr
  d_times : FuncData
  F_times : Fun K "times" "times" s_times f_times d_times
  g_times : mg "times" = some (.ref f_times)
  b_times : Binds K d_times ["first", "second"] []
  f_negative : Addr
  d_negative : FuncData
  F_negative : Fun K "negative" "negative" s_negative f_negative d_negative
  g_negative : mg "negative" = some (.ref f_negative)
  b_negative : Binds K d_negative ["value"] []
  f_added : Addr
  d_added : FuncData
  F_added : Fun K "added" "added" s_added f_added d_added
  g_added : mg "added" = some (.ref f_added)
  b_added : Binds K d_added ["first", "second"] []
  f_over : Addr
  d_over : FuncData
  F_over : Fun K "over" "over" s_over f_over d_over
  g_over : mg "over" = some (.ref f_over)
  b_over : Binds K d_over ["first", "second"] []
  f__law_sum : Addr
  d__law_sum : FuncData
  F__law_sum : Fun K "_law_sum" "_law_sum" s__law_sum f__law_sum d__law_sum
  g__law_sum : mg "_law_sum" = some (.ref f__law_sum)
  b__law_sum : Binds K d__law_sum ["values"] []
  f_summed : Addr
  d_summed : FuncData
  F_summed : Fun K "summed" "summed" s_summed f_summed d_summed
  g_summed : mg "summed" = some (.ref f_summed)
  b_summed : Binds K d_summed ["values"] []
  f_weighed : Addr
  d_weighed : FuncData
  F_weighed : Fun K "weighed" "weighed" s_weighed f_weighed d_weighed
  g_weighed : mg "weighed" = some (.ref f_weighed)
  b_weighed : Binds K d_weighed ["values", "others"] []
  f_greatest : Addr
  d_greatest : FuncData
  F_greatest : Fun K "greatest" "greatest" s_greatest f_greatest d_greatest
  g_greatest : mg "greatest" = some (.ref f_greatest)
  b_greatest : Binds K d_greatest ["values"] []
  f_ratio_text : Addr
  d_ratio_text : FuncData
  F_ratio_text : Fun K "ratio_text" "ratio_text" s_ratio_text f_ratio_text d_ratio_text
  g_ratio_text : mg "ratio_text" = some (.ref f_ratio_text)
  b_ratio_text : Binds K d_ratio_text ["value"] []
  f_law : Addr
  d_law : FuncData
  F_law : Fun K "law" "law" s_law f_law d_law
  g_law : mg "law" = some (.ref f_law)
  b_law : Binds K d_law ["script"] []
  n_abs : mg "abs" = none
  n_int : mg "int" = none
  n_range : mg "range" = none
  n_len : mg "len" = none
  n_max : mg "max" = none
  n_repr : mg "repr" = none
  n_zip : mg "zip" = none
  n_str : mg "str" = none
section
variable {P : Program} {w : World} {K : PySem.W.Frag} {mg : Str → Option Value} {base : Heap}
abbrev EA0 : EAT := fun _ _ _ _ => False
theorem fn__law_stream (T : Tops K mg) : FnG P w K mg base 1 T.f__law_stream T.d__law_stream ["script"] (spOf K EA0 [false] C__law_stream) :=
  FnG.of (N := N__law_stream) (m := 5) (wb := wf__law_stream) T.F__law_stream sc__law_stream rfl rfl k__law_stream fun cdv A outer s H E Ed hr gd =>
    have hu := hr.units
    (dss_cons (ds_set 1 (de_lst da_nil) sc__law_stream.nd)
    (dss_cons (ds_for ownX rfl (di_seq (de_slice (de_v 0) dp_none (dp_some de_int))) (dg_name 2 sc__law_stream.nd) (dss_cons (ds_set 3 (de_b1 call_abs sv_abs rfl T.n_abs (by decide +kernel) (de_t1 call_int1 sv_int rfl T.n_int (by decide +kernel) (de_v 2))) sc__law_stream.nd)
    (dss_one (ds_if (dt_cmp op_ge sv_ge (de_v 3) (de_op op_pow sv_pow de_int de_int) (nomark _)) (dss_one (ds_for ownX rfl (di_r1 rfl T.n_range de_int) (dg_name 4 sc__law_stream.nd) (dss_cons (ds_app (dn 1) (de_op op_modN sv_mod (de_t1 call_int1 sv_int rfl T.n_int (by decide +kernel) (de_v 3)) de_int))
    (dss_cons (ds_set 3 (de_op op_fdivX sv_fdiv (de_v 3) de_int) sc__law_stream.nd)
    (dss_one (ds_if (dt_cmp (op_eqP hu) sv_eq (de_v 3) de_int (nomark _)) (dss_one ds_break) dss_nil)))))) (dss_cons (ds_set 5 (de_op op_modN sv_mod (de_t1 call_int1 sv_int rfl T.n_int (by decide +kernel) (de_v 3)) de_int) sc__law_stream.nd)
    (dss_one (ds_for ownX rfl (di_r1 rfl T.n_range de_int) (dg_name 4 sc__law_stream.nd) (dss_cons (ds_set 5 (de_op op_modN sv_mod (de_t1 call_int1 sv_int rfl T.n_int (by decide +kernel) (de_op op_addX sv_add (de_op op_addX sv_add (de_op op_mulX sv_mul (de_v 5) de_int) (de_op op_mulX sv_mul de_int (de_v 4))) de_int)) de_int) sc__law_stream.nd)
    (dss_one (ds_app (dn 1) (de_op op_modN sv_mod (de_op op_modN sv_mod (de_t1 call_int1 sv_int rfl T.n_int (by decide +kernel) (de_op op_addX sv_add (de_op op_mulX sv_mul (de_v 5) de_int) (de_v 4))) de_int) de_int)))))))))))
    (dss_cons (ds_if (dt_cmp (op_eqP hu) sv_eq (de_b1N call_len sv_len rfl T.n_len (by decide +kernel) (dn 1)) de_int (nomark _)) (dss_one (ds_app (dn 1) de_int)) dss_nil)
    (dss_one (ds_retV (dn 1))))))
theorem fn__law_next (T : Tops K mg) : FnG P w K mg base 1 T.f__law_next T.d__law_next ["state", "many"] (spOf K EA0 [true, false] C__law_next) :=
  FnG.of (N := N__law_next) (m := 1) (wb := wf__law_next) T.F__law_next sc__law_next rfl rfl k__law_next fun cdv A outer s H E Ed hr gd =>
    have hu := hr.units
    (dss_cons (ds_asg (de_op op_addX sv_add (de_ixN (dn 0) de_int) de_int) (dg_ix (dn 0) de_int))
    (dss_cons (ds_set 2 (de_op op_fdivX sv_fdiv (de_ixN (dn 0) de_int) (de_b1 call_len sv_len rfl T.n_len (by decide +kernel) (de_ixN (dn 0) de_int))) sc__law_next.nd)
    (dss_one (ds_ret (de_op op_modN sv_mod (de_t1 call_int1 sv_int rfl T.n_int (by decide +kernel) (de_op op_addX sv_add (de_op op_addX sv_add (de_ix (de_ixN (dn 0) de_int) (de_op op_modN sv_mod (de_ixN (dn 0) de_int) (de_b1 call_len sv_len rfl T.n_len (by decide +kernel) (de_ixN (dn 0) de_int)))) (de_op op_mulX sv_mul (de_v 2) de_int)) (de_op op_mulX sv_mul (de_op op_mulX sv_mul (de_ixN (dn 0) de_int) (de_v 2)) de_int))) (de_v 1))))))
theorem fn__law_divisor (T : Tops K mg) : FnG P w K mg base 1 T.f__law_divisor T.d__law_divisor ["first", "second"] (spOf K EA0 [false, false] C__law_divisor) :=
  FnG.of (N := N__law_divisor) (m := 0) (wb := wf__law_divisor) T.F__law_divisor sc__law_divisor rfl rfl k__law_divisor fun cdv A outer s H E Ed hr gd =>
    have hu := hr.units
    (dss_cons (ds_set 0 (de_b2 (call_max2 rfl) sv_max2 rfl T.n_max (by decide +kernel) (de_v 0) (de_op op_sub sv_sub de_int (de_v 0))) sc__law_divisor.nd)
    (dss_cons (ds_set 1 (de_b2 (call_max2 rfl) sv_max2 rfl T.n_max (by decide +kernel) (de_v 1) (de_op op_sub sv_sub de_int (de_v 1))) sc__law_divisor.nd)
    (dss_cons (ds_while ownX (dt_cmp op_gt sv_gt (de_v 1) de_int (nomark _)) (dss_one (ds_par 0 1 rfl sc__law_divisor.nd (de_v 1) (de_op op_modN sv_mod (de_t1 call_int1 sv_int rfl T.n_int (by decide +kernel) (de_v 0)) (de_v 1)) (by decide))))
    (dss_one (ds_retV (dn 0))))))
theorem fn__law_ratio (T : Tops K mg) : FnG P w K mg base 2 T.f__law_ratio T.d__law_ratio ["top", "below"] (spOf K EA0 [false, false] C__law_ratio) :=
  FnG.of (N := N__law_ratio) (m := 1) (wb := wf__law_ratio) T.F__law_ratio sc__law_ratio rfl rfl k__law_ratio fun cdv A outer s H E Ed hr gd =>
    have hu := hr.units
    (dss_cons (ds_set 2 (de_call (fun _ _ _ h => (k__law_divisor _ _ _ h).1) (fn__law_divisor T) (hr.mono (by decide)) gd rfl T.g__law_divisor T.F__law_divisor.kp T.b__law_divisor passX (da_cons (de_v 0) (da_cons (de_v 1) da_nil))) sc__law_ratio.nd)
    (dss_cons (ds_if (dt_cmp op_lt sv_lt (de_v 1) de_int (nomark _)) (dss_one (ds_set 2 (de_op op_sub sv_sub de_int (de_v 2)) sc__law_ratio.nd)) dss_nil)
    (dss_one (ds_ret (de_tup (da_cons (de_op op_fdivX sv_fdiv (de_v 0) (de_v 2)) (da_cons (de_op op_fdivX sv_fdiv (de_v 1) (de_v 2)) da_nil)))))))
theorem fn__law_drawn (T : Tops K mg) : FnG P w K mg base 3 T.f__law_drawn T.d__law_drawn ["state"] (spOf K EA0 [true] C__law_drawn) :=
  FnG.of (N := N__law_drawn) (m := 1) (wb := wf__law_drawn) T.F__law_drawn sc__law_drawn rfl rfl k__law_drawn fun cdv A outer s H E Ed hr gd =>
    have hu := hr.units
    (dss_cons (ds_set 1 (de_op op_sub sv_sub (de_callB (fun _ _ _ h => (k__law_next _ _ _ h).1) (fn__law_next T) (hr.mono (by decide)) gd rfl T.g__law_next T.F__law_next.kp T.b__law_next passX (dn 0) (da_cons de_int da_nil)) de_int) sc__law_drawn.nd)
    (dss_one (ds_ret (de_call (fun _ _ _ h => (k__law_ratio _ _ _ h).1) (fn__law_ratio T) (hr.mono (by decide)) gd rfl T.g__law_ratio T.F__law_ratio.kp T.b__law_ratio passX (da_cons (de_op op_mulX sv_mul (de_v 1) (de_ix (de_lst (da_cons de_int (da_cons (de_op op_pow sv_pow de_int de_int) da_nil))) (de_t1 call_int1 sv_int rfl T.n_int (by decide +kernel) (de_cmp (op_eqP hu) sv_eq (de_callB (fun _ _ _ h => (k__law_next _ _ _ h).1) (fn__law_next T) (hr.mono (by decide)) gd rfl T.g__law_next T.F__law_next.kp T.b__law_next passX (dn 0) (da_cons de_int da_nil)) de_int (nomark _))))) (da_cons (de_op op_addX sv_add de_int (de_callB (fun _ _ _ h => (k__law_next _ _ _ h).1) (fn__law_next T) (hr.mono (by decide)) gd rfl T.g__law_next T.F__law_next.kp T.b__law_next passX (dn 0) (da_cons de_int da_nil))) da_nil))))))
theorem fn__law_same (T : Tops K mg) : FnG P w K mg base 1 T.f__law_same T.d__law_same ["told", "due"] (spOf K EA0 [false, false] C__law_same) :=
  FnG.of (N := N__law_same) (m := 0) (wb := wf__law_same) T.F__law_same sc__law_same rfl rfl k__law_same fun cdv A outer s H E Ed hr gd =>
    have hu := hr.units
    (dss_one (ds_ret (de_cmp (op_eqP hu) sv_eq (de_b1 (call_reprX gd hu) sv_repr rfl T.n_repr (by decide +kernel) (de_lst (da_cons (de_v 0) da_nil))) (de_b1 (call_reprX gd hu) sv_repr rfl T.n_repr (by decide +kernel) (de_lst (da_cons (de_v 1) da_nil))) (nomark _))))
theorem fn_divisor (T : Tops K mg) : FnG P w K mg base 1 T.f_divisor T.d_divisor ["first", "second"] (spOf K EA0 [false, false] C_divisor) :=
  FnG.of (N := N_divisor) (m := 0) (wb := wf_divisor) T.F_divisor sc_divisor rfl rfl k_divisor fun cdv A outer s H E Ed hr gd =>
    have hu := hr.units
    (dss_cons (ds_par 0 1 rfl sc_divisor.nd (de_b1 call_abs sv_abs rfl T.n_abs (by decide +kernel) (de_v 0)) (de_b1 call_abs sv_abs rfl T.n_abs (by decide +kernel) (de_v 1)) (by decide))
    (dss_cons (ds_while ownX (dt_cmp op_gt sv_gt (de_v 1) de_int (nomark _)) (dss_one (ds_par 0 1 rfl sc_divisor.nd (de_v 1) (de_op op_modN sv_mod (de_v 0) (de_v 1)) (by decide))))
    (dss_one (ds_retV (dn 0)))))
theorem fn_is_ratio (T : Tops K mg) : FnG P w K mg base 2 T.f_is_ratio T.d_is_ratio ["value"] (spOf K EA0 [false] C_is_ratio) :=
  FnG.of (N := N_is_ratio) (m := 0) (wb := wf_is_ratio) T.F_is_ratio sc_is_ratio rfl rfl k_is_ratio fun cdv A outer s H E Ed hr gd =>
    have hu := hr.units
    (dss_one (ds_ret (de_and (de_cmp (op_eqP hu) sv_eq (de_b1N call_len sv_len rfl T.n_len (by decide +kernel) (dn 0)) de_int (nomark _)) (de_and (de_cmp op_ge sv_ge (de_ixN (dn 0) de_int) de_int (nomark _)) (de_one (de_cmp (op_eqP hu) sv_eq (de_call (fun _ _ _ h => (k_divisor _ _ _ h).1) (fn_divisor T) (hr.mono (by decide)) gd rfl T.g_divisor T.F_divisor.kp T.b_divisor passX (da_cons (de_ixN (dn 0) de_int) (da_cons (de_ixN (dn 0) de_int) da_nil))) de_int (nomark _)))))))
theorem fn_ratio (T : Tops K mg) : FnG P w K mg base 2 T.f_ratio T.d_ratio ["top", "below"] (spOf K EA0 [false, false] C_ratio) :=
  FnG.of (N := N_ratio) (m := 1) (wb := wf_ratio) T.F_ratio sc_ratio rfl rfl k_ratio fun cdv A outer s H E Ed hr gd =>
    have hu := hr.units
    (dss_cons (ds_if (dt_cmp (op_eqP hu) sv_eq (de_v 1) de_int (nomark _)) (dss_one ds_never) dss_nil)
    (dss_cons (ds_set 2 (de_call (fun _ _ _ h => (k_divisor _ _ _ h).1) (fn_divisor T) (hr.mono (by decide)) gd rfl T.g_divisor T.F_divisor.kp T.b_divisor passX (da_cons (de_v 0) (da_cons (de_v 1) da_nil))) sc_ratio.nd)
    (dss_cons (ds_if (dt_cmp op_lt sv_lt (de_v 1) de_int (nomark _)) (dss_one (ds_set 2 (de_un un_neg sv_neg (de_v 2)) sc_ratio.nd)) dss_nil)
    (dss_one (ds_ret (de_tup (da_cons (de_op op_fdivX sv_fdiv (de_v 0) (de_v 2)) (da_cons (de_op op_fdivX sv_fdiv (de_v 1) (de_v 2)) da_nil))))))))
theorem fn__law_less (T : Tops K mg) : FnG P w K mg base 1 T.f__law_less T.d__law_less ["first", "second"] (spOf K EA0 [false, false] C__law_less) :=
  FnG.of (N := N__law_less) (m := 0) (wb := wf__law_less) T.F__law_less sc__law_less rfl rfl k__law_less fun cdv A outer s H E Ed hr gd =>
    have hu := hr.units
    (dss_one (ds_ret (de_cmp op_lt sv_lt (de_op op_mulX sv_mul (de_ixN (dn 0) de_int) (de_ixN (dn 1) de_int)) (de_op op_mulX sv_mul (de_ixN (dn 1) de_int) (de_ixN (dn 0) de_int)) (nomark _))))
theorem fn__law_plus (T : Tops K mg) : FnG P w K mg base 3 T.f__law_plus T.d__law_plus ["first", "second"] (spOf K EA0 [false, false] C__law_plus) :=
  FnG.of (N := N__law_plus) (m := 0) (wb := wf__law_plus) T.F__law_plus sc__law_plus rfl rfl k__law_plus fun cdv A outer s H E Ed hr gd =>
    have hu := hr.units
    (dss_one (ds_ret (de_call (fun _ _ _ h => (k__law_ratio _ _ _ h).1) (fn__law_ratio T) (hr.mono (by decide)) gd rfl T.g__law_ratio T.F__law_ratio.kp T.b__law_ratio passX (da_cons (de_op op_addX sv_add (de_op op_mulX sv_mul (de_ixN (dn 0) de_int) (de_ixN (dn 1) de_int)) (de_op op_mulX sv_mul (de_ixN (dn 1) de_int) (de_ixN (dn 0) de_int))) (da_cons (de_op op_mulX sv_mul (de_ixN (dn 0) de_int) (de_ixN (dn 1) de_int)) da_nil)))))
theorem fn_less (T : Tops K mg) : FnG P w K mg base 1 T.f_less T.d_less ["first", "second"] (spOf K EA0 [false, false] C_less) :=
  FnG.of (N := N_less) (m := 0) (wb := wf_less) T.F_less sc_less rfl rfl k_less fun cdv A outer s H E Ed hr gd =>
    have hu := hr.units
    (dss_one (ds_ret (de_cmp op_lt sv_lt (de_op op_mulX sv_mul (de_ixN (dn 0) de_int) (de_ixN (dn 1) de_int)) (de_op op_mulX sv_mul (de_ixN (dn 1) de_int) (de_ixN (dn 0) de_int)) (nomark _))))
theorem fn_times (T : Tops K mg) : FnG P w K mg base 3 T.f_times T.d_times ["first", "second"] (spOf K EA0 [false, false] C_times) :=
  FnG.of (N := N_times) (m := 0) (wb := wf_times) T.F_times sc_times rfl rfl k_times fun cdv A outer s H E Ed hr gd =>
    have hu := hr.units
    (dss_one (ds_ret (de_call (fun _ _ _ h => (k_ratio _ _ _ h).1) (fn_ratio T) (hr.mono (by decide)) gd rfl T.g_ratio T.F_ratio.kp T.b_ratio passX (da_cons (de_op op_mulX sv_mul (de_ixN (dn 0) de_int) (de_ixN (dn 1) de_int)) (da_cons (de_op op_mulX sv_mul (de_ixN (dn 0) de_int) (de_ixN (dn 1) de_int)) da_nil)))))
theorem fn_negative (T : Tops K mg) : FnG P w K mg base 1 T.f_negative T.d_negative ["value"] (spOf K EA0 [false] C_negative) :=
  FnG.of (N := N_negative) (m := 0) (wb := wf_negative) T.F_negative sc_negative rfl rfl k_negative fun cdv A outer s H E Ed hr gd =>
    have hu := hr.units
    (dss_one (ds_ret (de_tup (da_cons (de_un un_neg sv_neg (de_ixN (dn 0) de_int)) (da_cons (de_ixN (dn 0) de_int) da_nil)))))
theorem fn_added (T : Tops K mg) : FnG P w K mg base 3 T.f_added T.d_added ["first", "second"] (spOf K EA0 [false, false] C_added) :=
  FnG.of (N := N_added) (m := 0) (wb := wf_added) T.F_added sc_added rfl rfl k_added fun cdv A outer s H E Ed hr gd =>
    have hu := hr.units
    (dss_one (ds_ret (de_call (fun _ _ _ h => (k_ratio _ _ _ h).1) (fn_ratio T) (hr.mono (by decide)) gd rfl T.g_ratio T.F_ratio.kp T.b_ratio passX (da_cons (de_op op_addX sv_add (de_op op_mulX sv_mul (de_ixN (dn 0) de_int) (de_ixN (dn 1) de_int)) (de_op op_mulX sv_mul (de_ixN (dn 1) de_int) (de_ixN (dn 0) de_int))) (da_cons (de_op op_mulX sv_mul (de_ixN (dn 0) de_int) (de_ixN (dn 1) de_int)) da_nil)))))
theorem fn_over (T : Tops K mg) : FnG P w K mg base 3 T.f_over T.d_over ["first", "second"] (spOf K EA0 [false, false] C_over) :=
  FnG.of (N := N_over) (m := 0) (wb := wf_over) T.F_over sc_over rfl rfl k_over fun cdv A outer s H E Ed hr gd =>
    have hu := hr.units
    (dss_one (ds_ret (de_call (fun _ _ _ h => (k_ratio _ _ _ h).1) (fn_ratio T) (hr.mono (by decide)) gd rfl T.g_ratio T.F_ratio.kp T.b_ratio passX (da_cons (de_op op_mulX sv_mul (de_ixN (dn 0) de_int) (de_ixN (dn 1) de_int)) (da_cons (de_op op_mulX sv_mul (de_ixN (dn 0) de_int) (de_ixN (dn 1) de_int)) da_nil)))))
theorem fn__law_sum (T : Tops K mg) : FnG P w K mg base 4 T.f__law_sum T.d__law_sum ["values"] (spOf K EA0 [false] C__law_sum) :=
  FnG.of (N := N__law_sum) (m := 2) (wb := wf__law_sum) T.F__law_sum sc__law_sum rfl rfl k__law_sum fun cdv A outer s H E Ed hr gd =>
    have hu := hr.units
    (dss_cons (ds_set 1 (de_tup (da_cons de_int (da_cons de_int da_nil))) sc__law_sum.nd)
    (dss_cons (ds_for ownX rfl (di_seq (de_v 0)) (dg_name 2 sc__law_sum.nd) (dss_one (ds_set 1 (de_call (fun _ _ _ h => (k__law_plus _ _ _ h).1) (fn__law_plus T) (hr.mono (by decide)) gd rfl T.g__law_plus T.F__law_plus.kp T.b__law_plus passX (da_cons (de_v 1) (da_cons (de_v 2) da_nil))) sc__law_sum.nd)))
    (dss_one (ds_retV (dn 1)))))
theorem fn_summed (T : Tops K mg) : FnG P w K mg base 4 T.f_summed T.d_summed ["values"] (spOf K EA0 [false] C_summed) :=
  FnG.of (N := N_summed) (m := 2) (wb := wf_summed) T.F_summed sc_summed rfl rfl k_summed fun cdv A outer s H E Ed hr gd =>
    have hu := hr.units
    (dss_cons (ds_set 1 (de_tup (da_cons de_int (da_cons de_int da_nil))) sc_summed.nd)
    (dss_cons (ds_for ownX rfl (di_seq (de_v 0)) (dg_name 2 sc_summed.nd) (dss_one (ds_set 1 (de_call (fun _ _ _ h => (k_added _ _ _ h).1) (fn_added T) (hr.mono (by decide)) gd rfl T.g_added T.F_added.kp T.b_added passX (da_cons (de_v 1) (da_cons (de_v 2) da_nil))) sc_summed.nd)))
    (dss_one (ds_retV (dn 1)))))
theorem fn_weighed (T : Tops K mg) : FnG P w K mg base 5 T.f_weighed T.d_weighed ["values", "others"] (spOf K EA0 [false, false] C_weighed) :=
  FnG.of (N := N_weighed) (m := 2) (wb := wf_weighed) T.F_weighed sc_weighed rfl rfl k_weighed fun cdv A outer s H E Ed hr gd =>
    have hu := hr.units
    (dss_one (ds_ret (de_call (fun _ _ _ h => (k_summed _ _ _ h).1) (fn_summed T) (hr.mono (by decide)) gd rfl T.g_summed T.F_summed.kp T.b_summed passX (da_cons (de_lcE [("value", 2), ("other", 3)] rfl sc_weighed.nd (di_zip rfl T.n_zip (de_v 0) (de_v 1)) (blkOk_by (own := [("value", 2), ("other", 3)]) (N := N_weighed) (sc := defScope s_weighed) (by decide +kernel)) (fun _ _ _ _ _ => (dv_tup K rfl (dvs_cons (dv_name 2 sc_weighed.nd) (dvs_cons (dv_name 3 sc_weighed.nd) dvs_nil)))) (fun _ _ _ _ _ => dts_nil) (fun _ _ _ _ _ => (de_call (fun _ _ _ h => (k_times _ _ _ h).1) (fn_times T) (hr.mono (by decide)) gd rfl T.g_times T.F_times.kp T.b_times passL (da_cons (de_v 2) (da_cons (de_v 3) da_nil))))) da_nil))))
theorem fn_greatest (T : Tops K mg) : FnG P w K mg base 2 T.f_greatest T.d_greatest ["values"] (spOf K EA0 [false] C_greatest) :=
  FnG.of (N := N_greatest) (m := 2) (wb := wf_greatest) T.F_greatest sc_greatest rfl rfl k_greatest fun cdv A outer s H E Ed hr gd =>
    have hu := hr.units
    (dss_cons (ds_set 1 (de_ixN (dn 0) de_int) sc_greatest.nd)
    (dss_cons (ds_for ownX rfl (di_seq (de_slice (de_v 0) (dp_some de_int) dp_none)) (dg_name 2 sc_greatest.nd) (dss_one (ds_set 1 (de_if (dt_v (de_call (fun _ _ _ h => (k_less _ _ _ h).1) (fn_less T) (hr.mono (by decide)) gd rfl T.g_less T.F_less.kp T.b_less passX (da_cons (de_v 1) (da_cons (de_v 2) da_nil)))) (de_v 2) (de_v 1)) sc_greatest.nd)))
    (dss_one (ds_retV (dn 1)))))
theorem fn_ratio_text (T : Tops K mg) : FnG P w K mg base 1 T.f_ratio_text T.d_ratio_text ["value"] (spOf K EA0 [false] C_ratio_text) :=
  FnG.of (N := N_ratio_text) (m := 0) (wb := wf_ratio_text) T.F_ratio_text sc_ratio_text rfl rfl k_ratio_text fun cdv A outer s H E Ed hr gd =>
    have hu := hr.units
    (dss_one (ds_ret (de_if (dt_cmp (op_eqP hu) sv_eq (de_ixN (dn 0) de_int) de_int (nomark _)) (de_t1 call_strX sv_str rfl T.n_str (by decide +kernel) (de_ixN (dn 0) de_int)) (de_fs (dj_cons (de_fmt (de_ixN (dn 0) de_int)) (dj_cons de_str (dj_cons (de_fmt (de_ixN (dn 0) de_int)) dj_nil)))))))
theorem fn_law (T : Tops K mg) : FnG P w K mg base 6 T.f_law T.d_law ["script"] (spOf K EA0 [false] C_law) :=
  FnG.of (N := N_law) (m := 14) (wb := wf_law) T.F_law sc_law rfl rfl k_law fun cdv A outer s H E Ed hr gd =>
    have hu := hr.units
    (dss_cons (ds_set 1 (de_lst (da_cons (de_call (fun _ _ _ h => (k__law_stream _ _ _ h).1) (fn__law_stream T) (hr.mono (by decide)) gd rfl T.g__law_stream T.F__law_stream.kp T.b__law_stream passX (da_cons (de_v 0) da_nil)) (da_cons de_int da_nil))) sc_law.nd)
    (dss_cons (ds_for ownX rfl (di_r1 rfl T.n_range de_int) (dg_name 2 sc_law.nd) (dss_cons (ds_set 3 (de_op op_sub sv_sub (de_callB (fun _ _ _ h => (k__law_next _ _ _ h).1) (fn__law_next T) (hr.mono (by decide)) gd rfl T.g__law_next T.F__law_next.kp T.b__law_next passX (dn 1) (da_cons de_int da_nil)) de_int) sc_law.nd)
    (dss_cons (ds_set 4 (de_ix (de_lst (da_cons (de_op op_addX sv_add de_int (de_callB (fun _ _ _ h => (k__law_next _ _ _ h).1) (fn__law_next T) (hr.mono (by decide)) gd rfl T.g__law_next T.F__law_next.kp T.b__law_next passX (dn 1) (da_cons de_int da_nil))) (da_cons (de_op op_sub sv_sub (de_op op_sub sv_sub de_int de_int) (de_callB (fun _ _ _ h => (k__law_next _ _ _ h).1) (fn__law_next T) (hr.mono (by decide)) gd rfl T.g__law_next T.F__law_next.kp T.b__law_next passX (dn 1) (da_cons de_int da_nil))) da_nil))) (de_callB (fun _ _ _ h => (k__law_next _ _ _ h).1) (fn__law_next T) (hr.mono (by decide)) gd rfl T.g__law_next T.F__law_next.kp T.b__law_next passX (dn 1) (da_cons de_int da_nil))) sc_law.nd)
    (dss_cons (ds_set 5 (de_callB (fun _ _ _ h => (k__law_drawn _ _ _ h).1) (fn__law_drawn T) (hr.mono (by decide)) gd rfl T.g__law_drawn T.F__law_drawn.kp T.b__law_drawn passX (dn 1) da_nil) sc_law.nd)
    (dss_cons (ds_set 6 (de_callB (fun _ _ _ h => (k__law_drawn _ _ _ h).1) (fn__law_drawn T) (hr.mono (by decide)) gd rfl T.g__law_drawn T.F__law_drawn.kp T.b__law_drawn passX (dn 1) da_nil) sc_law.nd)
    (dss_cons (ds_setLc 7 [("k", 12)] rfl sc_law.nd (di_r1 rfl T.n_range (de_op op_addX sv_add de_int (de_callB (fun _ _ _ h => (k__law_next _ _ _ h).1) (fn__law_next T) (hr.mono (by decide)) gd rfl T.g__law_next T.F__law_next.kp T.b__law_next passX (dn 1) (da_cons de_int da_nil)))) (blkOk_by (own := [("k", 12)]) (N := N_law) (sc := defScope s_law) (by decide +kernel)) (fun _ _ _ _ _ => (dv_name 12 sc_law.nd)) (fun _ _ _ _ _ => dts_nil) (fun _ _ _ _ _ => (de_callB (fun _ _ _ h => (k__law_drawn _ _ _ h).1) (fn__law_drawn T) (hr.mono (by decide)) gd rfl T.g__law_drawn T.F__law_drawn.kp T.b__law_drawn passL (dn 1) da_nil)) (sw_true rfl rfl rfl (by decide +kernel)))
    (dss_cons (ds_setLc 8 [("row", 14)] rfl sc_law.nd (di_seq (de_v 7)) (blkOk_by (own := [("row", 14)]) (N := N_law) (sc := defScope s_law) (by decide +kernel)) (fun _ _ _ _ _ => (dv_name 14 sc_law.nd)) (fun _ _ _ _ _ => dts_nil) (fun _ _ _ _ _ => (de_callB (fun _ _ _ h => (k__law_drawn _ _ _ h).1) (fn__law_drawn T) (hr.mono (by decide)) gd rfl T.g__law_drawn T.F__law_drawn.kp T.b__law_drawn passL (dn 1) da_nil)) (sw_true rfl rfl rfl (by decide +kernel)))
    (dss_cons (ds_if (dt_not (dt_v (de_call (fun _ _ _ h => (k__law_same _ _ _ h).1) (fn__law_same T) (hr.mono (by decide)) gd rfl T.g__law_same T.F__law_same.kp T.b__law_same passX (da_cons (de_lst (da_cons (de_call (fun _ _ _ h => (k_ratio _ _ _ h).1) (fn_ratio T) (hr.mono (by decide)) gd rfl T.g_ratio T.F_ratio.kp T.b_ratio passX (da_cons (de_v 3) (da_cons (de_v 4) da_nil))) (da_cons (de_call (fun _ _ _ h => (k_is_ratio _ _ _ h).1) (fn_is_ratio T) (hr.mono (by decide)) gd rfl T.g_is_ratio T.F_is_ratio.kp T.b_is_ratio passX (da_cons (de_v 5) da_nil)) (da_cons (de_call (fun _ _ _ h => (k_is_ratio _ _ _ h).1) (fn_is_ratio T) (hr.mono (by decide)) gd rfl T.g_is_ratio T.F_is_ratio.kp T.b_is_ratio passX (da_cons (de_tup (da_cons (de_op op_mulX sv_mul de_int (de_ixN (dn 5) de_int)) (da_cons (de_op op_mulX sv_mul de_int (de_ixN (dn 5) de_int)) da_nil))) da_nil)) (da_cons (de_call (fun _ _ _ h => (k_is_ratio _ _ _ h).1) (fn_is_ratio T) (hr.mono (by decide)) gd rfl T.g_is_ratio T.F_is_ratio.kp T.b_is_ratio passX (da_cons (de_tup (da_cons de_int (da_cons de_int da_nil))) da_nil)) (da_cons (de_call (fun _ _ _ h => (k_is_ratio _ _ _ h).1) (fn_is_ratio T) (hr.mono (by decide)) gd rfl T.g_is_ratio T.F_is_ratio.kp T.b_is_ratio passX (da_cons (de_tup (da_cons de_int (da_cons (de_un un_neg sv_neg de_int) da_nil))) da_nil)) da_nil)))))) (da_cons (de_lst (da_cons (de_call (fun _ _ _ h => (k__law_ratio _ _ _ h).1) (fn__law_ratio T) (hr.mono (by decide)) gd rfl T.g__law_ratio T.F__law_ratio.kp T.b__law_ratio passX (da_cons (de_v 3) (da_cons (de_v 4) da_nil))) (da_cons de_bool (da_cons de_bool (da_cons de_bool (da_cons de_bool da_nil)))))) da_nil))))) (dss_one (ds_ret de_bool)) dss_nil)
    (dss_cons (ds_set 9 (de_lst (da_cons (de_call (fun _ _ _ h => (k__law_plus _ _ _ h).1) (fn__law_plus T) (hr.mono (by decide)) gd rfl T.g__law_plus T.F__law_plus.kp T.b__law_plus passX (da_cons (de_v 5) (da_cons (de_v 6) da_nil))) (da_cons (de_tup (da_cons (de_op op_sub sv_sub de_int (de_ixN (dn 5) de_int)) (da_cons (de_ixN (dn 5) de_int) da_nil))) (da_cons (de_call (fun _ _ _ h => (k__law_ratio _ _ _ h).1) (fn__law_ratio T) (hr.mono (by decide)) gd rfl T.g__law_ratio T.F__law_ratio.kp T.b__law_ratio passX (da_cons (de_op op_mulX sv_mul (de_ixN (dn 5) de_int) (de_ixN (dn 6) de_int)) (da_cons (de_op op_mulX sv_mul (de_ixN (dn 5) de_int) (de_ixN (dn 6) de_int)) da_nil))) (da_cons (de_call (fun _ _ _ h => (k__law_less _ _ _ h).1) (fn__law_less T) (hr.mono (by decide)) gd rfl T.g__law_less T.F__law_less.kp T.b__law_less passX (da_cons (de_v 5) (da_cons (de_v 6) da_nil))) da_nil))))) sc_law.nd)
    (dss_cons (ds_if (dt_not (dt_v (de_call (fun _ _ _ h => (k__law_same _ _ _ h).1) (fn__law_same T) (hr.mono (by decide)) gd rfl T.g__law_same T.F__law_same.kp T.b__law_same passX (da_cons (de_lst (da_cons (de_call (fun _ _ _ h => (k_added _ _ _ h).1) (fn_added T) (hr.mono (by decide)) gd rfl T.g_added T.F_added.kp T.b_added passX (da_cons (de_v 5) (da_cons (de_v 6) da_nil))) (da_cons (de_call (fun _ _ _ h => (k_negative _ _ _ h).1) (fn_negative T) (hr.mono (by decide)) gd rfl T.g_negative T.F_negative.kp T.b_negative passX (da_cons (de_v 5) da_nil)) (da_cons (de_call (fun _ _ _ h => (k_times _ _ _ h).1) (fn_times T) (hr.mono (by decide)) gd rfl T.g_times T.F_times.kp T.b_times passX (da_cons (de_v 5) (da_cons (de_v 6) da_nil))) (da_cons (de_call (fun _ _ _ h => (k_less _ _ _ h).1) (fn_less T) (hr.mono (by decide)) gd rfl T.g_less T.F_less.kp T.b_less passX (da_cons (de_v 5) (da_cons (de_v 6) da_nil))) da_nil))))) (da_cons (de_v 9) da_nil))))) (dss_one (ds_ret de_bool)) dss_nil)
    (dss_cons (ds_if (dt_w (dw_and (dt_cmp (op_neP hu) sv_ne (de_ixN (dn 6) de_int) de_int (nomark _)) (dw_and1 (dt_not (dt_v (de_call (fun _ _ _ h => (k__law_same _ _ _ h).1) (fn__law_same T) (hr.mono (by decide)) gd rfl T.g__law_same T.F__law_same.kp T.b__law_same passX (da_cons (de_call (fun _ _ _ h => (k_over _ _ _ h).1) (fn_over T) (hr.mono (by decide)) gd rfl T.g_over T.F_over.kp T.b_over passX (da_cons (de_v 5) (da_cons (de_v 6) da_nil))) (da_cons (de_call (fun _ _ _ h => (k__law_ratio _ _ _ h).1) (fn__law_ratio T) (hr.mono (by decide)) gd rfl T.g__law_ratio T.F__law_ratio.kp T.b__law_ratio passX (da_cons (de_op op_mulX sv_mul (de_ixN (dn 5) de_int) (de_ixN (dn 6) de_int)) (da_cons (de_op op_mulX sv_mul (de_ixN (dn 5) de_int) (de_ixN (dn 6) de_int)) da_nil))) da_nil)))))))) (dss_one (ds_ret de_bool)) dss_nil)
    (dss_cons (ds_set 10 (de_ixN (dn 7) de_int) sc_law.nd)
    (dss_cons (ds_set 11 (de_tup (da_cons de_int (da_cons de_int da_nil))) sc_law.nd)
    (dss_cons (ds_for ownX rfl (di_r1 rfl T.n_range (de_b1N call_len sv_len rfl T.n_len (by decide +kernel) (dn 7))) (dg_name 12 sc_law.nd) (dss_cons (ds_set 10 (de_ix (de_lst (da_cons (de_v 10) (da_cons (de_ixN (dn 7) (de_v 12)) da_nil))) (de_t1 call_int1 sv_int rfl T.n_int (by decide +kernel) (de_call (fun _ _ _ h => (k__law_less _ _ _ h).1) (fn__law_less T) (hr.mono (by decide)) gd rfl T.g__law_less T.F__law_less.kp T.b__law_less passX (da_cons (de_v 10) (da_cons (de_ixN (dn 7) (de_v 12)) da_nil))))) sc_law.nd)
    (dss_one (ds_set 11 (de_call (fun _ _ _ h => (k__law_plus _ _ _ h).1) (fn__law_plus T) (hr.mono (by decide)) gd rfl T.g__law_plus T.F__law_plus.kp T.b__law_plus passX (da_cons (de_v 11) (da_cons (de_call (fun _ _ _ h => (k__law_ratio _ _ _ h).1) (fn__law_ratio T) (hr.mono (by decide)) gd rfl T.g__law_ratio T.F__law_ratio.kp T.b__law_ratio passX (da_cons (de_op op_mulX sv_mul (de_ix (de_ixN (dn 7) (de_v 12)) de_int) (de_ix (de_ixN (dn 8) (de_v 12)) de_int)) (da_cons (de_op op_mulX sv_mul (de_ix (de_ixN (dn 7) (de_v 12)) de_int) (de_ix (de_ixN (dn 8) (de_v 12)) de_int)) da_nil))) da_nil))) sc_law.nd))))
    (dss_cons (ds_if (dt_not (dt_v (de_call (fun _ _ _ h => (k__law_same _ _ _ h).1) (fn__law_same T) (hr.mono (by decide)) gd rfl T.g__law_same T.F__law_same.kp T.b__law_same passX (da_cons (de_lst (da_cons (de_call (fun _ _ _ h => (k_greatest _ _ _ h).1) (fn_greatest T) (hr.mono (by decide)) gd rfl T.g_greatest T.F_greatest.kp T.b_greatest passX (da_cons (de_v 7) da_nil)) (da_cons (de_call (fun _ _ _ h => (k_summed _ _ _ h).1) (fn_summed T) (hr.mono (by decide)) gd rfl T.g_summed T.F_summed.kp T.b_summed passX (da_cons (de_v 7) da_nil)) (da_cons (de_call (fun _ _ _ h => (k_weighed _ _ _ h).1) (fn_weighed T) (hr.mono (by decide)) gd rfl T.g_weighed T.F_weighed.kp T.b_weighed passX (da_cons (de_v 7) (da_cons (de_v 8) da_nil))) da_nil)))) (da_cons (de_lst (da_cons (de_v 10) (da_cons (de_call (fun _ _ _ h => (k__law_sum _ _ _ h).1) (fn__law_sum T) (hr.mono (by decide)) gd rfl T.g__law_sum T.F__law_sum.kp T.b__law_sum passX (da_cons (de_v 7) da_nil)) (da_cons (de_v 11) da_nil)))) da_nil))))) (dss_one (ds_ret de_bool)) dss_nil)
    (dss_cons (ds_set 13 (de_t1 call_strX sv_str rfl T.n_str (by decide +kernel) (de_ixN (dn 5) de_int)) sc_law.nd)
    (dss_cons (ds_if (dt_cmp (op_neP hu) sv_ne (de_ixN (dn 5) de_int) de_int (nomark _)) (dss_one (ds_set 13 (de_op op_addX sv_add (de_op op_addX sv_add (de_v 13) de_str) (de_t1 call_strX sv_str rfl T.n_str (by decide +kernel) (de_ixN (dn 5) de_int))) sc_law.nd)) dss_nil)
    (dss_one (ds_if (dt_not (dt_v (de_call (fun _ _ _ h => (k__law_same _ _ _ h).1) (fn__law_same T) (hr.mono (by decide)) gd rfl T.g__law_same T.F__law_same.kp T.b__law_same passX (da_cons (de_call (fun _ _ _ h => (k_ratio_text _ _ _ h).1) (fn_ratio_text T) (hr.mono (by decide)) gd rfl T.g_ratio_text T.F_ratio_text.kp T.b_ratio_text passX (da_cons (de_v 5) da_nil)) (da_cons (de_v 13) da_nil))))) (dss_one (ds_ret de_bool)) dss_nil)))))))))))))))))))
    (dss_one (ds_ret de_bool))))
end
end K01
set_option maxRecDepth 100000
set_option maxHeartbeats 4000000
/-! K01e: the end, printed by gen.py. -/
namespace K01
open PySem PySem.Spec L2 Dl
theorem all_mk {l : PySem.W.OpenLaw} {w : World} {K : PySem.W.Frag} {h : Heap} {mg : Str → Option Value} {fa : Addr} (X : K.In h) (G : h.Ns mainGlobals mg) (hfa : mg "law" = some (.ref fa))
    {f0 : Addr} {od0 an0 : Option Addr} {sl0 : Array (Option Value)} {oc0 kV0 dc0 pm0 cd0 ct0 : Value}
    (a0 : PySem.W.nsIn K mainGlobals "_law_stream" = some (some (.ref f0))) (l0 : K.lookup f0 = some ⟨oc0, od0, .func (PySem.W.fnOf "_law_stream" "_law_stream" (defArgs s__law_stream) (defBody s__law_stream) (defScope s__law_stream) .none kV0 dc0 pm0 an0 cd0 ct0), sl0⟩) (c0 : PySem.W.codeIn K cd0 "_law_stream" = true) (k0 : PySem.W.keepIn K (.ref f0) = true)
    {f1 : Addr} {od1 an1 : Option Addr} {sl1 : Array (Option Value)} {oc1 kV1 dc1 pm1 cd1 ct1 : Value}
    (a1 : PySem.W.nsIn K mainGlobals "_law_next" = some (some (.ref f1))) (l1 : K.lookup f1 = some ⟨oc1, od1, .func (PySem.W.fnOf "_law_next" "_law_next" (defArgs s__law_next) (defBody s__law_next) (defScope s__law_next) .none kV1 dc1 pm1 an1 cd1 ct1), sl1⟩) (c1 : PySem.W.codeIn K cd1 "_law_next" = true) (k1 : PySem.W.keepIn K (.ref f1) = true)
    {f2 : Addr} {od2 an2 : Option Addr} {sl2 : Array (Option Value)} {oc2 kV2 dc2 pm2 cd2 ct2 : Value}
    (a2 : PySem.W.nsIn K mainGlobals "_law_divisor" = some (some (.ref f2))) (l2 : K.lookup f2 = some ⟨oc2, od2, .func (PySem.W.fnOf "_law_divisor" "_law_divisor" (defArgs s__law_divisor) (defBody s__law_divisor) (defScope s__law_divisor) .none kV2 dc2 pm2 an2 cd2 ct2), sl2⟩) (c2 : PySem.W.codeIn K cd2 "_law_divisor" = true) (k2 : PySem.W.keepIn K (.ref f2) = true)
    {f3 : Addr} {od3 an3 : Option Addr} {sl3 : Array (Option Value)} {oc3 kV3 dc3 pm3 cd3 ct3 : Value}
    (a3 : PySem.W.nsIn K mainGlobals "_law_ratio" = some (some (.ref f3))) (l3 : K.lookup f3 = some ⟨oc3, od3, .func (PySem.W.fnOf "_law_ratio" "_law_ratio" (defArgs s__law_ratio) (defBody s__law_ratio) (defScope s__law_ratio) .none kV3 dc3 pm3 an3 cd3 ct3), sl3⟩) (c3 : PySem.W.codeIn K cd3 "_law_ratio" = true) (k3 : PySem.W.keepIn K (.ref f3) = true)
    {f4 : Addr} {od4 an4 : Option Addr} {sl4 : Array (Option Value)} {oc4 kV4 dc4 pm4 cd4 ct4 : Value}
    (a4 : PySem.W.nsIn K mainGlobals "_law_drawn" = some (some (.ref f4))) (l4 : K.lookup f4 = some ⟨oc4, od4, .func (PySem.W.fnOf "_law_drawn" "_law_drawn" (defArgs s__law_drawn) (defBody s__law_drawn) (defScope s__law_drawn) .none kV4 dc4 pm4 an4 cd4 ct4), sl4⟩) (c4 : PySem.W.codeIn K cd4 "_law_drawn" = true) (k4 : PySem.W.keepIn K (.ref f4) = true)
    {f5 : Addr} {od5 an5 : Option Addr} {sl5 : Array (Option Value)} {oc5 kV5 dc5 pm5 cd5 ct5 : Value}
    (a5 : PySem.W.nsIn K mainGlobals "_law_same" = some (some (.ref f5))) (l5 : K.lookup f5 = some ⟨oc5, od5, .func (PySem.W.fnOf "_law_same" "_law_same" (defArgs s__law_same) (defBody s__law_same) (defScope s__law_same) .none kV5 dc5 pm5 an5 cd5 ct5), sl5⟩) (c5 : PySem.W.codeIn K cd5 "_law_same" = true) (k5 : PySem.W.keepIn K (.ref f5) = true)
    {f6 : Addr} {od6 an6 : Option Addr} {sl6 : Array (Option Value)} {oc6 kV6 dc6 pm6 cd6 ct6 : Value}
    (a6 : PySem.W.nsIn K mainGlobals "divisor" = some (some (.ref f6))) (l6 : K.lookup f6 = some ⟨oc6, od6, .func (PySem.W.fnOf "divisor" "divisor" (defArgs s_divisor) (defBody s_divisor) (defScope s_divisor) .none kV6 dc6 pm6 an6 cd6 ct6), sl6⟩) (c6 : PySem.W.codeIn K cd6 "divisor" = true) (k6 : PySem.W.keepIn K (.ref f6) = true)
    {f7 : Addr} {od7 an7 : Option Addr} {sl7 : Array (Option Value)} {oc7 kV7 dc7 pm7 cd7 ct7 : Value}
    (a7 : PySem.W.nsIn K mainGlobals "is_ratio" = some (some (.ref f7))) (l7 : K.lookup f7 = some ⟨oc7, od7, .func (PySem.W.fnOf "is_ratio" "is_ratio" (defArgs s_is_ratio) (defBody s_is_ratio) (defScope s_is_ratio) .none kV7 dc7 pm7 an7 cd7 ct7), sl7⟩) (c7 : PySem.W.codeIn K cd7 "is_ratio" = true) (k7 : PySem.W.keepIn K (.ref f7) = true)
    {f8 : Addr} {od8 an8 : Option Addr} {sl8 : Array (Option Value)} {oc8 kV8 dc8 pm8 cd8 ct8 : Value}
    (a8 : PySem.W.nsIn K mainGlobals "ratio" = some (some (.ref f8))) (l8 : K.lookup f8 = some ⟨oc8, od8, .func (PySem.W.fnOf "ratio" "ratio" (defArgs s_ratio) (defBody s_ratio) (defScope s_ratio) .none kV8 dc8 pm8 an8 cd8 ct8), sl8⟩) (c8 : PySem.W.codeIn K cd8 "ratio" = true) (k8 : PySem.W.keepIn K (.ref f8) = true)
    {f9 : Addr} {od9 an9 : Option Addr} {sl9 : Array (Option Value)} {oc9 kV9 dc9 pm9 cd9 ct9 : Value}
    (a9 : PySem.W.nsIn K mainGlobals "_law_less" = some (some (.ref f9))) (l9 : K.lookup f9 = some ⟨oc9, od9, .func (PySem.W.fnOf "_law_less" "_law_less" (defArgs s__law_less) (defBody s__law_less) (defScope s__law_less) .none kV9 dc9 pm9 an9 cd9 ct9), sl9⟩) (c9 : PySem.W.codeIn K cd9 "_law_less" = true) (k9 : PySem.W.keepIn K (.ref f9) = true)
    {f10 : Addr} {od10 an10 : Option Addr} {sl10 : Array (Option Value)} {oc10 kV10 dc10 pm10 cd10 ct10 : Value}
    (a10 : PySem.W.nsIn K mainGlobals "_law_plus" = some (some (.ref f10))) (l10 : K.lookup f10 = some ⟨oc10, od10, .func (PySem.W.fnOf "_law_plus" "_law_plus" (defArgs s__law_plus) (defBody s__law_plus) (defScope s__law_plus) .none kV10 dc10 pm10 an10 cd10 ct10), sl10⟩) (c10 : PySem.W.codeIn K cd10 "_law_plus" = true) (k10 : PySem.W.keepIn K (.ref f10) = true)
    {f11 : Addr} {od11 an11 : Option Addr} {sl11 : Array (Option Value)} {oc11 kV11 dc11 pm11 cd11 ct11 : Value}
    (a11 : PySem.W.nsIn K mainGlobals "less" = some (some (.ref f11))) (l11 : K.lookup f11 = some ⟨oc11, od11, .func (PySem.W.fnOf "less" "less" (defArgs s_less) (defBody s_less) (defScope s_less) .none kV11 dc11 pm11 an11 cd11 ct11), sl11⟩) (c11 : PySem.W.codeIn K cd11 "less" = true) (k11 : PySem.W.keepIn K (.ref f11) = true)
    {f12 : Addr} {od12 an12 : Option Addr} {sl12 : Array (Option Value)} {oc12 kV12 dc12 pm12 cd12 ct12 : Value}
    (a12 : PySem.W.nsIn K mainGlobals "times" = some (some (.ref f12))) (l12 : K.lookup f12 = some ⟨oc12, od12, .func (PySem.W.fnOf "times" "times" (defArgs s_times) (defBody s_times) (defScope s_times) .none kV12 dc12 pm12 an12 cd12 ct12), sl12⟩) (c12 : PySem.W.codeIn K cd12 "times" = true) (k12 : PySem.W.keepIn K (.ref f12) = true)
    {f13 : Addr} {od13 an13 : Option Addr} {sl13 : Array (Option Value)} {oc13 kV13 dc13 pm13 cd13 ct13 : Value}
    (a13 : PySem.W.nsIn K mainGlobals "negative" = some (some (.ref f13))) (l13 : K.lookup f13 = some ⟨oc13, od13, .func (PySem.W.fnOf "negative" "negative" (defArgs s_negative) (defBody s_negative) (defScope s_negative) .none kV13 dc13 pm13 an13 cd13 ct13), sl13⟩) (c13 : PySem.W.codeIn K cd13 "negative" = true) (k13 : PySem.W.keepIn K (.ref f13) = true)
    {f14 : Addr} {od14 an14 : Option Addr} {sl14 : Array (Option Value)} {oc14 kV14 dc14 pm14 cd14 ct14 : Value}
    (a14 : PySem.W.nsIn K mainGlobals "added" = some (some (.ref f14))) (l14 : K.lookup f14 = some ⟨oc14, od14, .func (PySem.W.fnOf "added" "added" (defArgs s_added) (defBody s_added) (defScope s_added) .none kV14 dc14 pm14 an14 cd14 ct14), sl14⟩) (c14 : PySem.W.codeIn K cd14 "added" = true) (k14 : PySem.W.keepIn K (.ref f14) = true)
    {f15 : Addr} {od15 an15 : Option Addr} {sl15 : Array (Option Value)} {oc15 kV15 dc15 pm15 cd15 ct15 : Value}
    (a15 : PySem.W.nsIn K mainGlobals "over" = some (some (.ref f15))) (l15 : K.lookup f15 = some ⟨oc15, od15, .func (PySem.W.fnOf "over" "over" (defArgs s_over) (defBody s_over) (defScope s_over) .none kV15 dc15 pm15 an15 cd15 ct15), sl15⟩) (c15 : PySem.W.codeIn K cd15 "over" = true) (k15 : PySem.W.keepIn K (.ref f15) = true)
    {f16 : Addr} {od16 an16 : Option Addr} {sl16 : Array (Option Value)} {oc16 kV16 dc16 pm16 cd16 ct16 : Value}
    (a16 : PySem.W.nsIn K mainGlobals "_law_sum" = some (some (.ref f16))) (l16 : K.lookup f16 = some ⟨oc16, od16, .func (PySem.W.fnOf "_law_sum" "_law_sum" (defArgs s__law_sum) (defBody s__law_sum) (defScope s__law_sum) .none kV16 dc16 pm16 an16 cd16 ct16), sl16⟩) (c16 : PySem.W.codeIn K cd16 "_law_sum" = true) (k16 : PySem.W.keepIn K (.ref f16) = true)
    {f17 : Addr} {od17 an17 : Option Addr} {sl17 : Array (Option Value)} {oc17 kV17 dc17 pm17 cd17 ct17 : Value}
    (a17 : PySem.W.nsIn K mainGlobals "summed" = some (some (.ref f17))) (l17 : K.lookup f17 = some ⟨oc17, od17, .func (PySem.W.fnOf "summed" "summed" (defArgs s_summed) (defBody s_summed) (defScope s_summed) .none kV17 dc17 pm17 an17 cd17 ct17), sl17⟩) (c17 : PySem.W.codeIn K cd17 "summed" = true) (k17 : PySem.W.keepIn K (.ref f17) = true)
    {f18 : Addr} {od18 an18 : Option Addr} {sl18 : Array (Option Value)} {oc18 kV18 dc18 pm18 cd18 ct18 : Value}
    (a18 : PySem.W.nsIn K mainGlobals "weighed" = some (some (.ref f18))) (l18 : K.lookup f18 = some ⟨oc18, od18, .func (PySem.W.fnOf "weighed" "weighed" (defArgs s_weighed) (defBody s_weighed) (defScope s_weighed) .none kV18 dc18 pm18 an18 cd18 ct18), sl18⟩) (c18 : PySem.W.codeIn K cd18 "weighed" = true) (k18 : PySem.W.keepIn K (.ref f18) = true)
    {f19 : Addr} {od19 an19 : Option Addr} {sl19 : Array (Option Value)} {oc19 kV19 dc19 pm19 cd19 ct19 : Value}
    (a19 : PySem.W.nsIn K mainGlobals "greatest" = some (some (.ref f19))) (l19 : K.lookup f19 = some ⟨oc19, od19, .func (PySem.W.fnOf "greatest" "greatest" (defArgs s_greatest) (defBody s_greatest) (defScope s_greatest) .none kV19 dc19 pm19 an19 cd19 ct19), sl19⟩) (c19 : PySem.W.codeIn K cd19 "greatest" = true) (k19 : PySem.W.keepIn K (.ref f19) = true)
    {f20 : Addr} {od20 an20 : Option Addr} {sl20 : Array (Option Value)} {oc20 kV20 dc20 pm20 cd20 ct20 : Value}
    (a20 : PySem.W.nsIn K mainGlobals "ratio_text" = some (some (.ref f20))) (l20 : K.lookup f20 = some ⟨oc20, od20, .func (PySem.W.fnOf "ratio_text" "ratio_text" (defArgs s_ratio_text) (defBody s_ratio_text) (defScope s_ratio_text) .none kV20 dc20 pm20 an20 cd20 ct20), sl20⟩) (c20 : PySem.W.codeIn K cd20 "ratio_text" = true) (k20 : PySem.W.keepIn K (.ref f20) = true)
    {f21 : Addr} {od21 an21 : Option Addr} {sl21 : Array (Option Value)} {oc21 kV21 dc21 pm21 cd21 ct21 : Value}
    (a21 : PySem.W.nsIn K mainGlobals "law" = some (some (.ref f21))) (l21 : K.lookup f21 = some ⟨oc21, od21, .func (PySem.W.fnOf "law" "law" (defArgs s_law) (defBody s_law) (defScope s_law) .none kV21 dc21 pm21 an21 cd21 ct21), sl21⟩) (c21 : PySem.W.codeIn K cd21 "law" = true) (k21 : PySem.W.keepIn K (.ref f21) = true)
    (z0 : PySem.W.nsIn K mainGlobals "abs" = some none)
    (z1 : PySem.W.nsIn K mainGlobals "int" = some none)
    (z2 : PySem.W.nsIn K mainGlobals "range" = some none)
    (z3 : PySem.W.nsIn K mainGlobals "len" = some none)
    (z4 : PySem.W.nsIn K mainGlobals "max" = some none)
    (z5 : PySem.W.nsIn K mainGlobals "repr" = some none)
    (z6 : PySem.W.nsIn K mainGlobals "zip" = some none)
    (z7 : PySem.W.nsIn K mainGlobals "str" = some none)
    : ∃ fd : FuncData, (∀ (s : Shared) (v : Value), BindsTo s fd ⟨[v], []⟩ [("script", v)]) ∧ ∀ base : Heap, K.In base → base.Ns mainGlobals mg → FnG l.prog w K mg base 6 fa fd ["script"] (spOf K EA0 [false] C_law) := by
  have e := hfa.symm.trans (PySem.W.mg_of X G a21)
  cases e
  have F0 := fun_mk (st := s__law_stream) l0 c0 k0
  have b0 := F0.binds (ps := ["script"]) fun _ _ _ _ _ _ us hl => match us, hl with | [_], _ => rfl
  have F1 := fun_mk (st := s__law_next) l1 c1 k1
  have b1 := F1.binds (ps := ["state", "many"]) fun _ _ _ _ _ _ us hl => match us, hl with | [_, _], _ => rfl
  have F2 := fun_mk (st := s__law_divisor) l2 c2 k2
  have b2 := F2.binds (ps := ["first", "second"]) fun _ _ _ _ _ _ us hl => match us, hl with | [_, _], _ => rfl
  have F3 := fun_mk (st := s__law_ratio) l3 c3 k3
  have b3 := F3.binds (ps := ["top", "below"]) fun _ _ _ _ _ _ us hl => match us, hl with | [_, _], _ => rfl
  have F4 := fun_mk (st := s__law_drawn) l4 c4 k4
  have b4 := F4.binds (ps := ["state"]) fun _ _ _ _ _ _ us hl => match us, hl with | [_], _ => rfl
  have F5 := fun_mk (st := s__law_same) l5 c5 k5
  have b5 := F5.binds (ps := ["told", "due"]) fun _ _ _ _ _ _ us hl => match us, hl with | [_, _], _ => rfl
  have F6 := fun_mk (st := s_divisor) l6 c6 k6
  have b6 := F6.binds (ps := ["first", "second"]) fun _ _ _ _ _ _ us hl => match us, hl with | [_, _], _ => rfl
  have F7 := fun_mk (st := s_is_ratio) l7 c7 k7
  have b7 := F7.binds (ps := ["value"]) fun _ _ _ _ _ _ us hl => match us, hl with | [_], _ => rfl
  have F8 := fun_mk (st := s_ratio) l8 c8 k8
  have b8 := F8.binds (ps := ["top", "below"]) fun _ _ _ _ _ _ us hl => match us, hl with | [_, _], _ => rfl
  have F9 := fun_mk (st := s__law_less) l9 c9 k9
  have b9 := F9.binds (ps := ["first", "second"]) fun _ _ _ _ _ _ us hl => match us, hl with | [_, _], _ => rfl
  have F10 := fun_mk (st := s__law_plus) l10 c10 k10
  have b10 := F10.binds (ps := ["first", "second"]) fun _ _ _ _ _ _ us hl => match us, hl with | [_, _], _ => rfl
  have F11 := fun_mk (st := s_less) l11 c11 k11
  have b11 := F11.binds (ps := ["first", "second"]) fun _ _ _ _ _ _ us hl => match us, hl with | [_, _], _ => rfl
  have F12 := fun_mk (st := s_times) l12 c12 k12
  have b12 := F12.binds (ps := ["first", "second"]) fun _ _ _ _ _ _ us hl => match us, hl with | [_, _], _ => rfl
  have F13 := fun_mk (st := s_negative) l13 c13 k13
  have b13 := F13.binds (ps := ["value"]) fun _ _ _ _ _ _ us hl => match us, hl with | [_], _ => rfl
  have F14 := fun_mk (st := s_added) l14 c14 k14
  have b14 := F14.binds (ps := ["first", "second"]) fun _ _ _ _ _ _ us hl => match us, hl with | [_, _], _ => rfl
  have F15 := fun_mk (st := s_over) l15 c15 k15
  have b15 := F15.binds (ps := ["first", "second"]) fun _ _ _ _ _ _ us hl => match us, hl with | [_, _], _ => rfl
  have F16 := fun_mk (st := s__law_sum) l16 c16 k16
  have b16 := F16.binds (ps := ["values"]) fun _ _ _ _ _ _ us hl => match us, hl with | [_], _ => rfl
  have F17 := fun_mk (st := s_summed) l17 c17 k17
  have b17 := F17.binds (ps := ["values"]) fun _ _ _ _ _ _ us hl => match us, hl with | [_], _ => rfl
  have F18 := fun_mk (st := s_weighed) l18 c18 k18
  have b18 := F18.binds (ps := ["values", "others"]) fun _ _ _ _ _ _ us hl => match us, hl with | [_, _], _ => rfl
  have F19 := fun_mk (st := s_greatest) l19 c19 k19
  have b19 := F19.binds (ps := ["values"]) fun _ _ _ _ _ _ us hl => match us, hl with | [_], _ => rfl
  have F20 := fun_mk (st := s_ratio_text) l20 c20 k20
  have b20 := F20.binds (ps := ["value"]) fun _ _ _ _ _ _ us hl => match us, hl with | [_], _ => rfl
  have F21 := fun_mk (st := s_law) l21 c21 k21
  have b21 := F21.binds (ps := ["script"]) fun _ _ _ _ _ _ us hl => match us, hl with | [_], _ => rfl
  let T : Tops K mg := ⟨_, _, F0, PySem.W.mg_of X G a0, b0, _, _, F1, PySem.W.mg_of X G a1, b1, _, _, F2, PySem.W.mg_of X G a2, b2, _, _, F3, PySem.W.mg_of X G a3, b3, _, _, F4, PySem.W.mg_of X G a4, b4, _, _, F5, PySem.W.mg_of X G a5, b5, _, _, F6, PySem.W.mg_of X G a6, b6, _, _, F7, PySem.W.mg_of X G a7, b7, _, _, F8, PySem.W.mg_of X G a8, b8, _, _, F9, PySem.W.mg_of X G a9, b9, _, _, F10, PySem.W.mg_of X G a10, b10, _, _, F11, PySem.W.mg_of X G a11, b11, _, _, F12, PySem.W.mg_of X G a12, b12, _, _, F13, PySem.W.mg_of X G a13, b13, _, _, F14, PySem.W.mg_of X G a14, b14, _, _, F15, PySem.W.mg_of X G a15, b15, _, _, F16, PySem.W.mg_of X G a16, b16, _, _, F17, PySem.W.mg_of X G a17, b17, _, _, F18, PySem.W.mg_of X G a18, b18, _, _, F19, PySem.W.mg_of X G a19, b19, _, _, F20, PySem.W.mg_of X G a20, b20, _, _, F21, PySem.W.mg_of X G a21, b21, PySem.W.mg_none_of X G z0, PySem.W.mg_none_of X G z1, PySem.W.mg_none_of X G z2, PySem.W.mg_none_of X G z3, PySem.W.mg_none_of X G z4, PySem.W.mg_none_of X G z5, PySem.W.mg_none_of X G z6, PySem.W.mg_none_of X G z7⟩
  exact ⟨_, fun s v => .of_eq rfl, fun base _ _ => fn_law T⟩
end K01
open PySem PySem.W PyProof.Rows
set_option maxHeartbeats 0 in
theorem PySem.Challenge.cw_allwatched_k01_ratios_holds : PySem.Challenge.rw_allwatched_k01_ratios.Holds := by
  w_on; o_law; k_head; (case hw => w_witness2)
  k_fill
  refine Dl.walk_law (l := PySem.Challenge.rw_allwatched_k01_ratios) (n := 63) (k := 6) (x := "script") (sp := fun w => Dl.spOf _ K01.EA0 [false] K01.C_law) rfl (by decide) rfl ⟨rfl, by decide, by decide⟩ rfl (fun w h Y => PySem.W.kIn_of Y) ?F (fun w H a ns hl hb hO hS => Dl.sp_law hS hO (Nat.le_trans hl (by decide)) ⟨hl, hb⟩)
  case F =>
    intro w mg fa h KX G hmg
    refine' K01.all_mk KX G hmg ?a0 ?l0 ?c0 ?k0 ?a1 ?l1 ?c1 ?k1 ?a2 ?l2 ?c2 ?k2 ?a3 ?l3 ?c3 ?k3 ?a4 ?l4 ?c4 ?k4 ?a5 ?l5 ?c5 ?k5 ?a6 ?l6 ?c6 ?k6 ?a7 ?l7 ?c7 ?k7 ?a8 ?l8 ?c8 ?k8 ?a9 ?l9 ?c9 ?k9 ?a10 ?l10 ?c10 ?k10 ?a11 ?l11 ?c11 ?k11 ?a12 ?l12 ?c12 ?k12 ?a13 ?l13 ?c13 ?k13 ?a14 ?l14 ?c14 ?k14 ?a15 ?l15 ?c15 ?k15 ?a16 ?l16 ?c16 ?k16 ?a17 ?l17 ?c17 ?k17 ?a18 ?l18 ?c18 ?k18 ?a19 ?l19 ?c19 ?k19 ?a20 ?l20 ?c20 ?k20 ?a21 ?l21 ?c21 ?k21 ?z0 ?z1 ?z2 ?z3 ?z4 ?z5 ?z6 ?z7
    (case a0 => k_is); (case l0 => k_is); (case c0 => k_is); (case k0 => k_is); (case a1 => k_is); (case l1 => k_is); (case c1 => k_is); (case k1 => k_is); (case a2 => k_is); (case l2 => k_is); (case c2 => k_is); (case k2 => k_is); (case a3 => k_is); (case l3 => k_is); (case c3 => k_is); (case k3 => k_is); (case a4 => k_is); (case l4 => k_is); (case c4 => k_is); (case k4 => k_is); (case a5 => k_is); (case l5 => k_is); (case c5 => k_is); (case k5 => k_is); (case a6 => k_is); (case l6 => k_is); (case c6 => k_is); (case k6 => k_is); (case a7 => k_is); (case l7 => k_is); (case c7 => k_is); (case k7 => k_is); (case a8 => k_is); (case l8 => k_is); (case c8 => k_is); (case k8 => k_is); (case a9 => k_is); (case l9 => k_is); (case c9 => k_is); (case k9 => k_is); (case a10 => k_is); (case l10 => k_is); (case c10 => k_is); (case k10 => k_is); (case a11 => k_is); (case l11 => k_is); (case c11 => k_is); (case k11 => k_is); (case a12 => k_is); (case l12 => k_is); (case c12 => k_is); (case k12 => k_is); (case a13 => k_is); (case l13 => k_is); (case c13 => k_is); (case k13 => k_is); (case a14 => k_is); (case l14 => k_is); (case c14 => k_is); (case k14 => k_is); (case a15 => k_is); (case l15 => k_is); (case c15 => k_is); (case k15 => k_is); (case a16 => k_is); (case l16 => k_is); (case c16 => k_is); (case k16 => k_is); (case a17 => k_is); (case l17 => k_is); (case c17 => k_is); (case k17 => k_is); (case a18 => k_is); (case l18 => k_is); (case c18 => k_is); (case k18 => k_is); (case a19 => k_is); (case l19 => k_is); (case c19 => k_is); (case k19 => k_is); (case a20 => k_is); (case l20 => k_is); (case c20 => k_is); (case k20 => k_is); (case a21 => k_is); (case l21 => k_is); (case c21 => k_is); (case k21 => k_is); (case z0 => k_is); (case z1 => k_is); (case z2 => k_is); (case z3 => k_is); (case z4 => k_is); (case z5 => k_is); (case z6 => k_is); (case z7 => k_is)
