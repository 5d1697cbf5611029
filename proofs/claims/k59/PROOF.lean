import PyProof.Rows.All
import PySem.PyData
import Wide.All
import OpenK.AllK
import Wide.FinOn
import HandS.ForExc
import HandS.Wide
import HandS.ForMost
import HandS.TupAny
import HandS.Deep
import HandS.Walk
import HandS.Lambda
import KE.GoesMore
import HandS.Words
import HandS.WordsExc
import HandS.CallSlots
import HandS.ExcInit
import HandS.List
import HandS.EndTab
import HandS.EndBits
import PyProof.ReprRoads
import HandS.RaiseMore
import KE.KExcIs
import KE.KIsAll
import HandS.Codes
import PyProof.ListNew
import PyProof.CollectWalk
import PyProof.Draws
import KE.KNest
import PyProof.SumWalkG
import PyProof.Rows.SumAny
import PySem.Challenge.RW_hatchwaits_k59_means_until_empty_and_sta
set_option Elab.async false
set_option linter.all false
set_option maxRecDepth 100000
set_option maxHeartbeats 4000000
namespace HW
open PySem (Str)

/-- values: tuples and frozen lists by value (xls: one from outside, read alone); `ref n`: the n-th object of the store -/
inductive W where
  | non | bl (b : Bool) | int (i : Int) | str (s : Str) | tup (xs : List W) | lst (xs : List W) | xls (xs : List W) | ref (n : Nat)
abbrev Ky := Sum Int Str
/-- objects that change -/
inductive O where
  | lst (xs : List W)
  | dK (kvs : List (Ky × W))
  | dN (kvs : List (W × W))
  | ins (c : Str) (fs : List (Str × W))
  | dead
abbrev Store := List O
abbrev Env := List (Option W)
inductive Res (α : Type) where
  | ok (a : α) (S : Store)
  | exn (c : Str) (fs : List (Str × W)) (S : Store)
  | bad
inductive SRes where
  | nx (e : Env) (S : Store)
  | rt (w : W) (S : Store)
  | bk (e : Env) (S : Store)
  | ct (e : Env) (S : Store)
  | exn (c : Str) (fs : List (Str × W)) (e : Env) (S : Store)
  | bad
def Res.bind {α β : Type} (r : Res α) (k : α → Store → Res β) : Res β := match r with
  | .ok a S => k a S
  | .exn c f S => .exn c f S
  | .bad => .bad
def Res.toS {α : Type} (r : Res α) (e : Env) (k : α → Store → SRes) : SRes := match r with
  | .ok a S => k a S
  | .exn c f S => .exn c f e S
  | .bad => .bad
@[simp] theorem Res.bind_ok {α β : Type} (a : α) (S : Store) (k : α → Store → Res β) : (Res.ok a S).bind k = k a S := rfl
@[simp] theorem Res.bind_exn {α β : Type} (c f S) (k : α → Store → Res β) : (Res.exn c f S : Res α).bind k = .exn c f S := rfl
@[simp] theorem Res.bind_bad {α β : Type} (k : α → Store → Res β) : (Res.bad : Res α).bind k = .bad := rfl
@[simp] theorem Res.toS_ok {α : Type} (a : α) (S e) (k : α → Store → SRes) : (Res.ok a S).toS e k = k a S := rfl
@[simp] theorem Res.toS_exn {α : Type} (c f S e) (k : α → Store → SRes) : (Res.exn c f S : Res α).toS e k = .exn c f e S := rfl
@[simp] theorem Res.toS_bad {α : Type} (e) (k : α → Store → SRes) : (Res.bad : Res α).toS e k = .bad := rfl
theorem Res.bind_assoc {α β γ : Type} (r : Res α) (k : α → Store → Res β) (l : β → Store → Res γ) : (r.bind k).bind l = r.bind fun a S => (k a S).bind l := by
  cases r <;> rfl
/-- lengths stay below this -/
def LIM : Nat := 16000000
abbrev Ev := Env → Store → Res W
abbrev Tv := Env → Store → Res Bool
abbrev Av := Env → Store → Res (List W)
abbrev Sv := Env → Store → SRes
/-- what a def does: arguments, store -/
abbrev Fv := List W → Store → Res W

/-! ### names, constants -/
def eVar (i : Nat) : Ev := fun env S => match env[i]? with
  | some (some w) => .ok w S
  | _ => .bad
def eC (w : W) : Ev := fun _ S => .ok w S
def eBad : Ev := fun _ _ => .bad

/-! ### arguments -/
def aNil : Av := fun _ S => .ok [] S
def aCons (e : Ev) (r : Av) : Av := fun env S => (e env S).bind fun w S1 => (r env S1).bind fun ws S2 => .ok (w :: ws) S2

/-! ### displays -/
def eTup (a : Av) : Ev := fun env S => (a env S).bind fun ws S1 => if ws.length ≤ LIM then .ok (.tup ws) S1 else .bad
/-- a list display that is never changed -/
def eLst (a : Av) : Ev := fun env S => (a env S).bind fun ws S1 => if ws.length ≤ LIM then .ok (.lst ws) S1 else .bad
/-- a list display that will be changed: laid in the store -/
def eLstS (a : Av) : Ev := fun env S => (a env S).bind fun ws S1 => if ws.length ≤ LIM then .ok (.ref S1.length) (S1 ++ [.lst ws]) else .bad

/-! ### operators by values -/
def eOp (f : W → W → Store → Res W) (a b : Ev) : Ev := fun env S => (a env S).bind fun x S1 => (b env S1).bind fun y S2 => f x y S2
def eUn (f : W → Store → Res W) (a : Ev) : Ev := fun env S => (a env S).bind fun x S1 => f x S1
/-- the items of a list, frozen or in the store -/
def seqL (w : W) (S : Store) : Option (List W) := match w with
  | .lst xs => some xs
  | .ref n => match S[n]? with
    | some (.lst xs) => some xs
    | _ => none
  | _ => none
/-- .. for reading alone: one from outside too -/
def seqR (w : W) (S : Store) : Option (List W) := match w with
  | .xls xs => some xs
  | w => seqL w S
/-- .. of a tuple too -/
def seqT (w : W) (S : Store) : Option (List W) := match w with
  | .tup xs => some xs
  | w => seqR w S
/-- a new list -/
def newL (xs : List W) (S : Store) : Res W := if xs.length ≤ LIM then .ok (.lst xs) S else .bad
def newLS (xs : List W) (S : Store) : Res W := if xs.length ≤ LIM then .ok (.ref S.length) (S ++ [.lst xs]) else .bad
def newT (xs : List W) (S : Store) : Res W := if xs.length ≤ LIM then .ok (.tup xs) S else .bad
/-- products, quotients: sizes -/
def mulOk (i j : Int) : Prop := i.natAbs.log2 + j.natAbs.log2 < 1000000
instance : Decidable (mulOk i j) := by unfold mulOk; infer_instance
def divOk (j : Int) : Prop := 0 < j ∧ j.natAbs.log2 < 9000
instance : Decidable (divOk j) := by unfold divOk; infer_instance
def powOk (i j : Int) : Prop := 0 ≤ j ∧ j ≤ 1000000 ∧ i.natAbs < 2 ^ 64
instance : Decidable (powOk i j) := by unfold powOk; infer_instance
def addW (x y : W) (S : Store) : Res W := match x, y with
  | .int i, .int j => .ok (.int (i + j)) S
  | .str a, .str b => if a.length + b.length ≤ LIM then .ok (.str (a ++ b)) S else .bad
  | .tup xs, .tup ys => newT (xs ++ ys) S
  | x, y => match seqL x S, seqL y S with
    | some xs, some ys => newL (xs ++ ys) S
    | _, _ => .bad
/-- a sum of lists that will be changed -/
def addLS (x y : W) (S : Store) : Res W := match seqL x S, seqL y S with
    | some xs, some ys => newLS (xs ++ ys) S
    | _, _ => .bad
def subW (x y : W) (S : Store) : Res W := match x, y with
  | .int i, .int j => .ok (.int (i - j)) S
  | _, _ => .bad
def mulW (x y : W) (S : Store) : Res W := match x, y with
  | .int i, .int j => if mulOk i j then .ok (.int (i * j)) S else .bad
  | _, _ => .bad
def fdivW (x y : W) (S : Store) : Res W := match x, y with
  | .int i, .int j => if divOk j then .ok (.int (i / j)) S else .bad
  | _, _ => .bad
def modW (x y : W) (S : Store) : Res W := match x, y with
  | .int i, .int j => if 0 < j then .ok (.int (i % j)) S else .bad
  | _, _ => .bad
def powW (x y : W) (S : Store) : Res W := match x, y with
  | .int i, .int j => if powOk i j then .ok (.int (i ^ j.toNat)) S else .bad
  | _, _ => .bad
def negW (x : W) (S : Store) : Res W := match x with
  | .int i => .ok (.int (-i)) S
  | _ => .bad
/-- comparisons of whole numbers -/
def cmpI (p : Int → Int → Bool) (x y : W) (S : Store) : Res W := match x, y with
  | .int i, .int j => .ok (.bl (p i j)) S
  | _, _ => .bad
def ltW := cmpI fun i j => decide (i < j)
def leW := cmpI fun i j => decide (i ≤ j)
def gtW := cmpI fun i j => decide (j < i)
def geW := cmpI fun i j => decide (j ≤ i)
def W.isNon : W → Bool
  | .non => true
  | _ => false
def isNW (x : W) (S : Store) : Res W := .ok (.bl x.isNon) S
def notNW (x : W) (S : Store) : Res W := .ok (.bl (!x.isNon)) S

/-! ### and, or, not, if: truths alone -/
def eAnd (a b : Ev) : Ev := fun env S => (a env S).bind fun x S1 => match x with
  | .bl true => b env S1
  | .bl false => .ok (.bl false) S1
  | _ => .bad
def eOr (a b : Ev) : Ev := fun env S => (a env S).bind fun x S1 => match x with
  | .bl true => .ok (.bl true) S1
  | .bl false => b env S1
  | _ => .bad
def eNot (a : Ev) : Ev := fun env S => (a env S).bind fun x S1 => match x with
  | .bl b => .ok (.bl (!b)) S1
  | _ => .bad
def tVal (a : Ev) : Tv := fun env S => (a env S).bind fun x S1 => match x with
  | .bl b => .ok b S1
  | _ => .bad
def eIf (t : Tv) (a b : Ev) : Ev := fun env S => (t env S).bind fun c S1 => if c = true then a env S1 else b env S1

/-! ### statements -/
def sSkip : Sv := fun env S => .nx env S
def sSeq (a b : Sv) : Sv := fun env S => match a env S with
  | .nx e S1 => b e S1
  | r => r
def sExpr (e : Ev) : Sv := fun env S => (e env S).toS env fun _ S1 => .nx env S1
def sRet (e : Ev) : Sv := fun env S => (e env S).toS env fun w S1 => .rt w S1
def sRetN : Sv := fun env S => .rt .non S
def sBreak : Sv := fun env S => .bk env S
def sCont : Sv := fun env S => .ct env S
def sIf (t : Tv) (a b : Sv) : Sv := fun env S => (t env S).toS env fun c S1 => if c = true then a env S1 else b env S1
/-- what a target (a name, a tuple of targets) does with a value -/
abbrev Gv := W → Env → Option Env
def gName (i : Nat) : Gv := fun w env => some (env.set i (some w))
/-- targets, one after another -/
def gList : List Gv → List W → Env → Option Env
  | [], [], env => some env
  | g :: gs, w :: ws, env => (g w env).bind fun e => gList gs ws e
  | _, _, _ => none
def gTup (gs : List Gv) : Gv := fun w env => match w with
  | .tup ws => gList gs ws env
  | _ => none
def sAsg (e : Ev) (g : Gv) : Sv := fun env S => (e env S).toS env fun w S1 => match g w env with
  | some e1 => .nx e1 S1
  | none => .bad

/-! ### data: values without places of the store -/
mutual
def W.data : W → PySem.PyData
  | .non => .none
  | .bl b => .bool b
  | .int i => .int i
  | .str x => .str x
  | .tup xs => .tuple (W.dataL xs)
  | .lst xs => .list (W.dataL xs)
  | .xls xs => .list (W.dataL xs)
  | .ref _ => .none
def W.dataL : List W → List PySem.PyData
  | [] => []
  | x :: xs => x.data :: W.dataL xs
end
/-- signs that are signs -/
def okS (x : Str) : Bool := x.cps.all (· < 0x110000)
/-- no place of the store in it, nested at most n deep -/
def W.okD : Nat → W → Bool
  | _, .non => true
  | _, .bl _ => true
  | _, .int _ => true
  | _, .str x => okS x
  | _, .ref _ => false
  | _, .xls _ => false
  | 0, .tup _ => false
  | 0, .lst _ => false
  | n + 1, .tup xs => xs.all (W.okD n)
  | n + 1, .lst xs => xs.all (W.okD n)
mutual
/-- Python's == of data -/
def W.eqv : W → W → Bool
  | .non, .non => true
  | .bl a, .bl b => a == b
  | .bl a, .int j => (if a then 1 else 0) == j
  | .int i, .bl b => i == (if b then 1 else 0)
  | .int i, .int j => i == j
  | .str x, .str y => x == y
  | .tup xs, .tup ys => W.eqvL xs ys
  | .lst xs, .lst ys => W.eqvL xs ys
  | _, _ => false
def W.eqvL : List W → List W → Bool
  | [], [] => true
  | x :: xs, y :: ys => W.eqv x y && W.eqvL xs ys
  | _, _ => false
end
/-- a list of the store by what it holds -/
def deref (w : W) (S : Store) : W := match w with
  | .ref n => (match S[n]? with
    | some (.lst xs) => .lst xs
    | _ => w)
  | .xls xs => .lst xs
  | w => w
def DEEP : Nat := 40
def eqW (x y : W) (S : Store) : Res W := if (deref x S).okD DEEP = true ∧ (deref y S).okD DEEP = true then .ok (.bl (W.eqv (deref x S) (deref y S))) S else .bad
def neW (x y : W) (S : Store) : Res W := if (deref x S).okD DEEP = true ∧ (deref y S).okD DEEP = true then .ok (.bl (!W.eqv (deref x S) (deref y S))) S else .bad
/-- x in y: a list, a tuple of data; a sign in a text -/
def inB (x y : W) (S : Store) : Option Bool := match x, y with
  | .str a, .str z => (match a.cps.toList with
    | [c] => some (decide (c ∈ z.cps.toList))
    | _ => none)
  | x, y => (match deref y S with
    | .lst ys => if x.okD DEEP = true ∧ (W.lst ys).okD DEEP = true then some (ys.any fun z => W.eqv z x) else none
    | .tup ys => if x.okD DEEP = true ∧ (W.tup ys).okD DEEP = true then some (ys.any fun z => W.eqv z x) else none
    | _ => none)
def inW (x y : W) (S : Store) : Res W := match inB x y S with
  | some b => .ok (.bl b) S
  | none => .bad
def ninW (x y : W) (S : Store) : Res W := match inB x y S with
  | some b => .ok (.bl (!b)) S
  | none => .bad

/-! ### places -/
def ixN (n : Nat) (i : Int) : Option Nat := if 0 ≤ i then (if i < n then some i.toNat else none) else if -(n : Int) ≤ i then some (i + n).toNat else none
def atI {α : Type} (xs : List α) (i : Int) : Option α := (ixN xs.length i).bind fun j => xs[j]?
def ixW (x i : W) (S : Store) : Res W := match x, i with
  | .str z, .int k => if z.length ≤ LIM then (match atI z.cps.toList k with
    | some c => .ok (.str ⟨#[c]⟩) S
    | none => .bad) else .bad
  | x, .int k => (match seqT x S with
    | some xs => (match atI xs k with
      | some w => .ok w S
      | none => .bad)
    | none => .bad)
  | _, _ => .bad
/-- a bound of a slice -/
abbrev Ov := Env → Store → Res (Option Int)
def oNone : Ov := fun _ S => .ok none S
def oSome (e : Ev) : Ov := fun env S => (e env S).bind fun w S1 => match w with
  | .int i => .ok (some i) S1
  | _ => .bad
def sIx (n d : Nat) : Option Int → Nat
  | none => d
  | some v => if v < 0 then (v + (n : Int)).toNat else min v.toNat n
def cutL {α : Type} (xs : List α) (lo hi : Option Int) : List α := (xs.drop (sIx xs.length 0 lo)).take (sIx xs.length xs.length hi - sIx xs.length 0 lo)
def cutW (x : W) (lo hi : Option Int) (S : Store) : Res W := match x with
  | .str z => if z.length ≤ LIM then .ok (.str ⟨(cutL z.cps.toList lo hi).toArray⟩) S else .bad
  | .tup xs => .ok (.tup (cutL xs lo hi)) S
  | x => (match seqR x S with
    | some xs => .ok (.lst (cutL xs lo hi)) S
    | none => .bad)
def cutLS (x : W) (lo hi : Option Int) (S : Store) : Res W := match seqR x S with
    | some xs => .ok (.ref S.length) (S ++ [.lst (cutL xs lo hi)])
    | none => .bad
def eCut (f : W → Option Int → Option Int → Store → Res W) (e : Ev) (lo hi : Ov) : Ev := fun env S => (e env S).bind fun x S1 => (lo env S1).bind fun l S2 => (hi env S2).bind fun h S3 => f x l h S3

/-! ### built-in functions, by their arguments -/
abbrev Bv := List W → Store → Res W
def eCall (f : Bv) (a : Av) : Ev := fun env S => (a env S).bind fun ws S1 => f ws S1
def lenW : Bv := fun ws S => match ws with
  | [.str z] => if z.length ≤ LIM then .ok (.int z.length) S else .bad
  | [x] => (match seqT x S with
    | some xs => .ok (.int xs.length) S
    | none => .bad)
  | _ => .bad
def listW : Bv := fun ws S => match ws with
  | [x] => (match seqT x S with
    | some xs => .ok (.lst xs) S
    | none => .bad)
  | _ => .bad
def listWS : Bv := fun ws S => match ws with
  | [x] => (match seqT x S with
    | some xs => .ok (.ref S.length) (S ++ [.lst xs])
    | none => .bad)
  | _ => .bad
def tupleW : Bv := fun ws S => match ws with
  | [x] => (match seqT x S with
    | some xs => .ok (.tup xs) S
    | none => .bad)
  | _ => .bad
def absW : Bv := fun ws S => match ws with
  | [.int i] => .ok (.int (if i < 0 then -i else i)) S
  | _ => .bad
def intW : Bv := fun ws S => match ws with
  | [.int i] => .ok (.int i) S
  | [.bl b] => .ok (.int (if b then 1 else 0)) S
  | _ => .bad
def strW : Bv := fun ws S => match ws with
  | [.int i] => if i.natAbs.log2 < 1920 then .ok (.str (toString i)) S else .bad
  | _ => .bad
/-- all are whole numbers -/
def intsOf : List W → Option (List Int)
  | [] => some []
  | .int i :: r => (intsOf r).map (i :: ·)
  | _ => none
def blsOf : List W → Option (List Bool)
  | [] => some []
  | .bl i :: r => (blsOf r).map (i :: ·)
  | _ => none
def strsOf : List W → Option (List Str)
  | [] => some []
  | .str i :: r => (strsOf r).map (i :: ·)
  | _ => none
def onInts (k : List Int → Option W) : Bv := fun ws S => match ws with
  | [x] => (match seqR x S with
    | some xs => (match intsOf xs with
      | some ns => (match k ns with
        | some w => .ok w S
        | none => .bad)
      | none => .bad)
    | none => .bad)
  | _ => .bad
def sumW : Bv := onInts fun ns => some (.int ns.sum)
def maxL : List Int → Int
  | [] => 0
  | x :: xs => xs.foldl (fun m y => if y > m then y else m) x
def minL : List Int → Int
  | [] => 0
  | x :: xs => xs.foldl (fun m y => if y < m then y else m) x
def maxLW : Bv := onInts fun ns => if ns = [] then none else some (.int (maxL ns))
def minLW : Bv := onInts fun ns => if ns = [] then none else some (.int (minL ns))
def max2W : Bv := fun ws S => match ws with
  | [.int i, .int j] => .ok (.int (if j > i then j else i)) S
  | _ => .bad
def min2W : Bv := fun ws S => match ws with
  | [.int i, .int j] => .ok (.int (if j < i then j else i)) S
  | _ => .bad
def onBls (k : List Bool → Bool) : Bv := fun ws S => match ws with
  | [x] => (match seqR x S with
    | some xs => (match blsOf xs with
      | some bs => .ok (.bl (k bs)) S
      | none => .bad)
    | none => .bad)
  | _ => .bad
def allW : Bv := onBls fun bs => bs.all id
def anyW : Bv := onBls fun bs => bs.any id


/-! ### tests -/
def tAnd (t u : Tv) : Tv := fun env S => (t env S).bind fun c S1 => if c = true then u env S1 else .ok false S1
def tOr (t u : Tv) : Tv := fun env S => (t env S).bind fun c S1 => if c = true then .ok true S1 else u env S1
def tNot (t : Tv) : Tv := fun env S => (t env S).bind fun c S1 => .ok (!c) S1
def tYes : Tv := fun _ S => .ok true S

/-! ### loops -/
/-- what a loop walks: the items; the list of the store that must stay as it is -/
abbrev Gd := Option (Nat × List W)
abbrev Iv := Env → Store → Res (List W × Gd)
def gdOk (gd : Gd) (S : Store) : Prop := match gd with
  | none => True
  | some (n, xs) => S[n]? = some (.lst xs)
open Classical in
noncomputable def forL (gd : Gd) (tg : Gv) (body : Sv) : List W → Sv
  | [], env, S => if gdOk gd S then .nx env S else .bad
  | w :: ws, env, S => if gdOk gd S then (match tg w env with
    | some e1 => (match body e1 S with
      | .nx e2 S2 => forL gd tg body ws e2 S2
      | .ct e2 S2 => forL gd tg body ws e2 S2
      | .bk e2 S2 => .nx e2 S2
      | r => r)
    | none => .bad) else .bad
noncomputable def sFor (iv : Iv) (tg : Gv) (body : Sv) : Sv := fun env S => (iv env S).toS env fun p S1 => forL p.2 tg body p.1 env S1
/-- a while, so many turns at most -/
def whileN (t : Tv) (body : Sv) : Nat → Sv
  | 0, _, _ => .bad
  | n + 1, env, S => (t env S).toS env fun c S1 => if c = true then (match body env S1 with
    | .nx e2 S2 => whileN t body n e2 S2
    | .ct e2 S2 => whileN t body n e2 S2
    | .bk e2 S2 => .nx e2 S2
    | r => r) else .nx env S1
open Classical in
noncomputable def sWhile (t : Tv) (body : Sv) : Sv := fun env S => if h : ∃ n, whileN t body n env S ≠ .bad then whileN t body h.choose env S else .bad
theorem whileN_more {t : Tv} {body : Sv} : ∀ (n : Nat) (env : Env) (S : Store), whileN t body n env S ≠ .bad → ∀ m, n ≤ m → whileN t body m env S = whileN t body n env S := by
  intro n
  induction n with
  | zero => intro env S h; exact absurd rfl h
  | succ n ih =>
    intro env S h m hm
    obtain ⟨m, rfl⟩ : ∃ k, m = k + 1 := ⟨m - 1, by omega⟩
    revert h
    simp only [whileN]
    cases t env S with
    | exn => intro _; rfl
    | bad => intro h; exact absurd rfl h
    | ok c S1 =>
      simp only [Res.toS_ok]
      cases c with
      | false => intro _; rfl
      | true =>
        simp only [if_true]
        cases body env S1 with
        | nx e S2 => intro h; exact ih _ _ h m (by omega)
        | ct e S2 => intro h; exact ih _ _ h m (by omega)
        | bk e S2 => intro _; rfl
        | rt => intro _; rfl
        | exn => intro _; rfl
        | bad => intro h; exact absurd rfl h
theorem sWhile_of {t : Tv} {body : Sv} {env : Env} {S : Store} {r : SRes} (n : Nat) (h : whileN t body n env S = r) (hr : r ≠ .bad) : sWhile t body env S = r := by
  have hx : ∃ n, whileN t body n env S ≠ .bad := ⟨n, by rw [h]; exact hr⟩
  unfold sWhile
  rw [dif_pos hx]
  have h1 := whileN_more _ _ _ hx.choose_spec (max n hx.choose) (Nat.le_max_right _ _)
  have h2 := whileN_more n env S (by rw [h]; exact hr) (max n hx.choose) (Nat.le_max_left _ _)
  rw [← h1, h2, h]
/-- one turn more -/
theorem sWhile_step {t : Tv} {body : Sv} {env e2 : Env} {S S1 S2 : Store} (ht : t env S = .ok true S1) (hb : body env S1 = .nx e2 S2) (h : sWhile t body e2 S2 ≠ .bad) : sWhile t body env S = sWhile t body e2 S2 := by
  have hx : ∃ n, whileN t body n e2 S2 ≠ .bad := by
    apply Classical.byContradiction
    intro hn
    apply h
    unfold sWhile
    rw [dif_neg hn]
  obtain ⟨n, hn⟩ := hx
  rw [sWhile_of n rfl hn]
  refine sWhile_of (n + 1) ?_ hn
  simp only [whileN, ht, Res.toS_ok, if_true, hb]
theorem sWhile_end {t : Tv} {body : Sv} {env : Env} {S S1 : Store} (ht : t env S = .ok false S1) : sWhile t body env S = .nx env S1 :=
  sWhile_of 1 (by simp [whileN, ht]) (by intro z; cases z)

/-! ### comprehensions -/
def wipeE (env : Env) : List Nat → Env
  | [] => env
  | v :: vs => (wipeE env vs).set v none
/-- what raises nothing -/
def Res.calm {α : Type} : Res α → Res α
  | .ok a S => .ok a S
  | _ => .bad
open Classical in
noncomputable def compL (gd : Gd) (tg : Gv) (cond : Tv) (elt : Ev) (env : Env) : List W → Store → Res (List W)
  | [], S => if gdOk gd S then .ok [] S else .bad
  | w :: ws, S => if gdOk gd S then (match tg w env with
    | some e1 => (cond e1 S).calm.bind fun c S2 => if c = true then (elt e1 S2).calm.bind fun v S3 => (compL gd tg cond elt env ws S3).bind fun vs S4 => .ok (v :: vs) S4 else compL gd tg cond elt env ws S2
    | none => .bad) else .bad
/-- [elt for tg in iv if cond], frozen; vs: the slots of its own names -/
noncomputable def eComp (iv : Iv) (tg : Gv) (cond : Tv) (elt : Ev) (vs : List Nat) : Ev := fun env S => (iv env S).bind fun p S1 => (compL p.2 tg cond elt (wipeE env vs) p.1 S1).bind fun ws S2 => newL ws S2
noncomputable def eCompS (iv : Iv) (tg : Gv) (cond : Tv) (elt : Ev) (vs : List Nat) : Ev := fun env S => (iv env S).bind fun p S1 => (compL p.2 tg cond elt (wipeE env vs) p.1 S1).bind fun ws S2 => newLS ws S2

/-! ### what is walked -/
/-- a list, a tuple; a list of the store must stay -/
def guardOf (w : W) (S : Store) : Gd := match w with
  | .ref n => (match S[n]? with
    | some (.lst xs) => some (n, xs)
    | _ => none)
  | _ => none
def iSeq (e : Ev) : Iv := fun env S => (e env S).bind fun w S1 => match seqT w S1 with
  | some xs => .ok (xs, guardOf w S1) S1
  | none => .bad
def rangeL (lo hi : Int) : List W := (List.range (hi - lo).toNat).map fun i : Nat => W.int (lo + (i : Int))
def iRange1 (a : Av) : Iv := fun env S => (a env S).bind fun ws S1 => match ws with
  | [.int n] => if -(2 ^ 62) ≤ n ∧ n < 2 ^ 62 then .ok (rangeL 0 n, none) S1 else .bad
  | _ => .bad
def iRange2 (a : Av) : Iv := fun env S => (a env S).bind fun ws S1 => match ws with
  | [.int lo, .int hi] => if -(2 ^ 62) ≤ lo ∧ lo < 2 ^ 62 ∧ -(2 ^ 62) ≤ hi ∧ hi < 2 ^ 62 then .ok (rangeL lo hi, none) S1 else .bad
  | _ => .bad

end HW
namespace HW
open PySem L2

/-- the class of each name; the tables of code objects of those who make lambdas -/
structure CM where
  at_ : Str → Addr
  T : List (Addr × Str)
instance : CoeFun CM (fun _ => Str → Addr) := ⟨CM.at_⟩
/-- an object that the layer writes -/
def Wr : Option HO → Prop
  | some (.lst _) => True
  | some (.dK _) => True
  | some (.ins _ _ _) => True
  | _ => False
theorem Wr.mut {o : Option HO} (h : Wr o) : Mut o := by
  cases o with
  | none => exact h
  | some u => cases u <;> first | exact h | exact h.elim
/-- an object that stays for ever -/
def Fast : HO → Prop
  | .tbl _ => True
  | .ext _ => True
  | _ => False
theorem Wr.fast {o : HO} (h : Wr (some o)) (f : Fast o) : False := by cases o <;> first | exact h | exact f
theorem Wr.ne_tbl {o : HO} (h : Wr (some o)) (ps : Array Value) : o ≠ .tbl ps := fun z => by subst z; exact h
theorem tabs_of {T : List (Addr × Str)} {H H' : Hp} (t : LamX.Tabs T H) (e : ∀ b o, H b = some o → Fast o → H' b = some o) : LamX.Tabs T H' := fun p hp => by
  obtain ⟨ps, h1, h2, h3⟩ := t p hp
  refine ⟨ps, e _ _ h1 trivial, h2, fun pos cv hc => ?_⟩
  obtain ⟨c, e1, e2⟩ := h3 pos cv hc
  exact ⟨c, e1, e _ _ e2 trivial⟩
/-- what the top's written part says: K, and the class of each name -/
structure G where
  K : PySem.W.Frag
  cm : CM

/-- a list that never changes -/
def FzL (K : PySem.W.Frag) (H : Hp) (a : Addr) (xs : List V) : Prop :=
  (∃ o, H a = some (.frz o (.lst xs))) ∨
    ∃ (o : Obj) (its : Array Value) (n : Nat), K.lookup a = some o ∧ o.cls = .type "list" ∧ o.dict = none ∧ o.data = .seq its n ∧ its.size ≤ sizeLine ∧ Vals xs its.toList
/-- .. of ours: its object is known to the sign -/
def FzE (H : Hp) (a : Addr) (xs : List V) : Prop := ∃ o, H a = some (.frz o (.lst xs))
theorem FzE.rd {H : Hp} {a : Addr} {xs : List V} (h : FzE H a xs) : Rd H a (.lst xs) := .inr h
theorem FzL.sq {K : PySem.W.Frag} {H : Hp} {a : Addr} {xs : List V} (h : FzL K H a xs) : SqL K H a xs := by
  rcases h with ⟨o, h⟩ | h
  · exact .inl (.inr ⟨o, h⟩)
  · exact .inr h

mutual
/-- a value of the layer stands for w -/
inductive Rep (K : PySem.W.Frag) (ρ : List Addr) (H : Hp) : V → W → Prop
  | non : Rep K ρ H .non .non
  | bl (b : Bool) : Rep K ρ H (.bl b) (.bl b)
  | int (i : Int) : Rep K ρ H (.int i) (.int i)
  | str (x : Str) : Rep K ρ H (.str x) (.str x)
  | tup {a : Addr} {vs : List V} {ws : List W} : SqT K H a vs → RepAll K ρ H vs ws → Rep K ρ H (.ref a) (.tup ws)
  | lst {a : Addr} {vs : List V} {ws : List W} : FzE H a vs → RepAll K ρ H vs ws → Rep K ρ H (.ref a) (.lst ws)
  | xls {a : Addr} {vs : List V} {ws : List W} : FzL K H a vs → RepAll K ρ H vs ws → Rep K ρ H (.ref a) (.xls ws)
  | ref {a : Addr} {n : Nat} : ρ[n]? = some a → Rep K ρ H (.ref a) (.ref n)
inductive RepAll (K : PySem.W.Frag) (ρ : List Addr) (H : Hp) : List V → List W → Prop
  | nil : RepAll K ρ H [] []
  | cons {v : V} {vs : List V} {w : W} {ws : List W} : Rep K ρ H v w → RepAll K ρ H vs ws → RepAll K ρ H (v :: vs) (w :: ws)
end

/-- a step: what may be relied on behind it -/
structure Step (ρ : List Addr) (H : Hp) (ρ' : List Addr) (H' : Hp) : Prop where
  pre : ρ <+: ρ'
  fresh : ∀ a, a ∈ ρ' → a ∈ ρ ∨ ∀ o, H a = some o → ∃ ps, o = .tbl ps
  keep : ∀ a o, H a = some o → a ∉ ρ → (∀ ps, o ≠ .tbl ps) → H' a = some o
  tups : ∀ a xs, H a = some (.tup xs) → H' a = some (.tup xs)
  frzs : ∀ a o u, H a = some (.frz o u) → H' a = some (.frz o u)
/-- what a value leans on -/
structure Mon (ρ : List Addr) (H : Hp) (ρ' : List Addr) (H' : Hp) : Prop where
  pre : ρ <+: ρ'
  tups : ∀ a xs, H a = some (.tup xs) → H' a = some (.tup xs)
  frzs : ∀ a o u, H a = some (.frz o u) → H' a = some (.frz o u)
theorem Step.mon {ρ ρ' : List Addr} {H H' : Hp} (s : Step ρ H ρ' H') : Mon ρ H ρ' H' := ⟨s.pre, s.tups, s.frzs⟩
/-- an object that is neither tuple nor frozen may change -/
theorem Mon.upd {ρ : List Addr} {H : Hp} {p : Addr} {u o : HO} (h : H p = some u) (hm : Wr (some u)) : Mon ρ H ρ (upd H p o) where
  pre := List.prefix_refl _
  tups := fun a x e => by
    rw [upd_ne (fun z => ?_)]; exact e
    subst z; rw [h] at e; cases e; exact hm
  frzs := fun a _ x e => by
    rw [upd_ne (fun z => ?_)]; exact e
    subst z; rw [h] at e; cases e; exact hm
/-- .. one that was not there at the start -/
theorem Step.mut {ρ ρ' : List Addr} {H H' : Hp} {p : Addr} {o : HO} (s : Step ρ H ρ' H') (h : H p = none) : Step ρ H ρ' (upd H' p o) where
  pre := s.pre
  fresh := s.fresh
  keep := fun a u e n nt => by rw [upd_ne (ne_of_none e h)]; exact s.keep a u e n nt
  tups := fun a x e => by rw [upd_ne (ne_of_none e h)]; exact s.tups a x e
  frzs := fun a _ x e => by rw [upd_ne (ne_of_none e h)]; exact s.frzs a _ x e
theorem Step.refl (ρ : List Addr) (H : Hp) : Step ρ H ρ H := ⟨List.prefix_refl _, fun _ h => .inl h, fun _ _ h _ _ => h, fun _ _ h => h, fun _ _ _ h => h⟩
theorem Step.trans {ρ ρ1 ρ2 : List Addr} {H H1 H2 : Hp} (a : Step ρ H ρ1 H1) (b : Step ρ1 H1 ρ2 H2) : Step ρ H ρ2 H2 where
  pre := a.pre.trans b.pre
  fresh := fun x h => by
    rcases b.fresh x h with h | h
    · exact a.fresh x h
    · cases q : H x with
      | none => exact .inr fun u e => nomatch e
      | some o =>
        by_cases hx : x ∈ ρ
        · exact .inl hx
        · refine .inr fun u e => ?_
          cases e
          by_cases ht : ∃ ps, o = .tbl ps
          · exact ht
          · exact absurd (h o (a.keep x o q hx (fun ps z => ht ⟨ps, z⟩))) ht
  keep := fun x o h n nt => by
    refine b.keep x o (a.keep x o h n nt) (fun hx => ?_) nt
    rcases a.fresh x hx with h1 | h1
    · exact n h1
    · obtain ⟨ps, z⟩ := h1 o h
      exact nt ps z
  tups := fun x xs h => b.tups x xs (a.tups x xs h)
  frzs := fun x o u h => b.frzs x o u (a.frzs x o u h)
/-- something new stands in the heap -/
theorem Step.new {ρ : List Addr} {H : Hp} {p : Addr} {o : HO} (h : H p = none) : Step ρ H ρ (upd H p o) where
  pre := List.prefix_refl _
  fresh := fun _ h => .inl h
  keep := fun a u e _ _ => by rw [upd_ne (ne_of_none e h)]; exact e
  tups := fun a u e => by rw [upd_ne (ne_of_none e h)]; exact e
  frzs := fun a _ u e => by rw [upd_ne (ne_of_none e h)]; exact e
/-- .. and is of the store -/
theorem Step.alloc {ρ : List Addr} {H : Hp} {p : Addr} {o : HO} (h : H p = none) : Step ρ H (ρ ++ [p]) (upd H p o) where
  pre := List.prefix_append _ _
  fresh := fun a m => by
    rcases List.mem_append.mp m with m | m
    · exact .inl m
    · have : a = p := by simpa using m
      subst this; exact .inr fun o e => by rw [h] at e; cases e
  keep := fun a u e _ _ => by rw [upd_ne (ne_of_none e h)]; exact e
  tups := fun a u e => by rw [upd_ne (ne_of_none e h)]; exact e
  frzs := fun a _ u e => by rw [upd_ne (ne_of_none e h)]; exact e
/-- an object of the store changes -/
theorem Step.write {ρ : List Addr} {H : Hp} {p : Addr} {o u : HO} (m : p ∈ ρ) (h : H p = some u) (hm : Wr (some u)) : Step ρ H ρ (upd H p o) where
  pre := List.prefix_refl _
  fresh := fun _ h => .inl h
  keep := fun a u e n _ => by rw [upd_ne (fun z : a = p => n (by rw [z]; exact m))]; exact e
  tups := fun a x e => by
    rw [upd_ne (fun z => ?_)]; exact e
    subst z; rw [h] at e; cases e; exact hm
  frzs := fun a _ x e => by
    rw [upd_ne (fun z => ?_)]; exact e
    subst z; rw [h] at e; cases e; exact hm
section
variable {K : PySem.W.Frag} {ρ ρ' : List Addr} {H H' : Hp}
theorem Mon.sqT (st : Mon ρ H ρ' H') {a : Addr} {xs : List V} (h : SqT K H a xs) : SqT K H' a xs := by
  rcases h with (h | ⟨o, h⟩) | h
  · exact .inl (.inl (st.tups _ _ h))
  · exact .inl (.inr ⟨o, st.frzs _ _ _ h⟩)
  · exact .inr h
theorem Mon.fzL (st : Mon ρ H ρ' H') {a : Addr} {xs : List V} (h : FzL K H a xs) : FzL K H' a xs := by
  rcases h with ⟨o, h⟩ | h
  · exact .inl ⟨o, st.frzs _ _ _ h⟩
  · exact .inr h
theorem pre_get {α : Type} {l l' : List α} (h : l <+: l') {n : Nat} {a : α} (e : l[n]? = some a) : l'[n]? = some a := by
  obtain ⟨t, rfl⟩ := h
  rw [List.getElem?_append_left (List.getElem?_eq_some_iff.mp e).1]
  exact e
mutual
theorem Rep.step (st : Mon ρ H ρ' H') : ∀ (w : W) (v : V), Rep K ρ H v w → Rep K ρ' H' v w
  | _, _, .non => .non
  | _, _, .bl b => .bl b
  | _, _, .int i => .int i
  | _, _, .str x => .str x
  | _, _, .tup h r => .tup (st.sqT h) (RepAll.step st _ _ r)
  | _, _, .lst ⟨o, h⟩ r => .lst ⟨o, st.frzs _ _ _ h⟩ (RepAll.step st _ _ r)
  | _, _, .xls h r => .xls (st.fzL h) (RepAll.step st _ _ r)
  | _, _, .ref h => .ref (pre_get st.pre h)
theorem RepAll.step (st : Mon ρ H ρ' H') : ∀ (ws : List W) (vs : List V), RepAll K ρ H vs ws → RepAll K ρ' H' vs ws
  | _, _, .nil => .nil
  | _, _, .cons h r => .cons (Rep.step st _ _ h) (RepAll.step st _ _ r)
end
theorem Rep.monM {v : V} {w : W} (r : Rep K ρ H v w) (st : Mon ρ H ρ' H') : Rep K ρ' H' v w := Rep.step st w v r
theorem RepAll.monM {v : List V} {w : List W} (r : RepAll K ρ H v w) (st : Mon ρ H ρ' H') : RepAll K ρ' H' v w := RepAll.step st w v r
theorem Rep.mono {v : V} {w : W} (r : Rep K ρ H v w) (st : Step ρ H ρ' H') : Rep K ρ' H' v w := r.monM st.mon
theorem RepAll.mono {v : List V} {w : List W} (r : RepAll K ρ H v w) (st : Step ρ H ρ' H') : RepAll K ρ' H' v w := r.monM st.mon
theorem RepAll.length : ∀ {vs : List V} {ws : List W}, RepAll K ρ H vs ws → vs.length = ws.length
  | _, _, .nil => rfl
  | _, _, .cons _ r => by rw [List.length_cons, List.length_cons, r.length]
theorem RepAll.append : ∀ {vs vs' : List V} {ws ws' : List W}, RepAll K ρ H vs ws → RepAll K ρ H vs' ws' → RepAll K ρ H (vs ++ vs') (ws ++ ws')
  | _, _, _, _, .nil, s => s
  | _, _, _, _, .cons h r, s => .cons h (r.append s)
theorem RepAll.get : ∀ {vs : List V} {ws : List W} {i : Nat} {w : W}, RepAll K ρ H vs ws → ws[i]? = some w → ∃ v, vs[i]? = some v ∧ Rep K ρ H v w
  | _, _, _, _, .nil, e => by simp at e
  | _, _, 0, _, .cons h _, e => by simp at e; subst e; exact ⟨_, rfl, h⟩
  | _, _, i + 1, w, .cons _ r, e => by
    obtain ⟨v, h1, h2⟩ := r.get (i := i) (w := w) (by simpa using e)
    exact ⟨v, by simpa using h1, h2⟩
theorem RepAll.getV {vs : List V} {ws : List W} {i : Nat} {v : V} (r : RepAll K ρ H vs ws) (e : vs[i]? = some v) : ∃ w, ws[i]? = some w ∧ Rep K ρ H v w := by
  have hi : i < ws.length := by rw [← r.length]; exact (List.getElem?_eq_some_iff.mp e).1
  obtain ⟨v', h1, h2⟩ := r.get (List.getElem?_eq_getElem hi)
  rw [e] at h1; cases h1
  exact ⟨_, List.getElem?_eq_getElem hi, h2⟩
theorem RepAll.set {v : V} {w : W} (h : Rep K ρ H v w) : ∀ {vs : List V} {ws : List W} (i : Nat), RepAll K ρ H vs ws → RepAll K ρ H (vs.set i v) (ws.set i w)
  | _, _, _, .nil => .nil
  | _, _, 0, .cons _ r => .cons h r
  | _, _, i + 1, .cons q r => .cons q (r.set h i)
theorem RepAll.take : ∀ {vs : List V} {ws : List W} (n : Nat), RepAll K ρ H vs ws → RepAll K ρ H (vs.take n) (ws.take n)
  | _, _, 0, _ => .nil
  | _, _, _ + 1, .nil => .nil
  | _, _, n + 1, .cons h r => .cons h (r.take n)
theorem RepAll.drop : ∀ {vs : List V} {ws : List W} (n : Nat), RepAll K ρ H vs ws → RepAll K ρ H (vs.drop n) (ws.drop n)
  | _, _, 0, r => r
  | _, _, _ + 1, .nil => .nil
  | _, _, n + 1, .cons _ r => r.drop n
theorem RepAll.reverse {vs : List V} {ws : List W} (r : RepAll K ρ H vs ws) : RepAll K ρ H vs.reverse ws.reverse := by
  induction ws generalizing vs with
  | nil => cases r; exact .nil
  | cons w ws ih => cases r with
    | cons h r => rw [List.reverse_cons, List.reverse_cons]; exact (ih r).append (.cons h .nil)
end

theorem nodup_ixA {l : List Addr} (nd : l.Nodup) {i j : Nat} {x : Addr} (a : l[i]? = some x) (b : l[j]? = some x) : i = j := by
  obtain ⟨h1, e1⟩ := List.getElem?_eq_some_iff.mp a
  obtain ⟨h2, e2⟩ := List.getElem?_eq_some_iff.mp b
  exact (List.getElem_inj nd).mp (e1.trans e2.symm)
/-! ### the state -/
/-- fields, entries -/
inductive RepF (K : PySem.W.Frag) (ρ : List Addr) (H : Hp) {κ : Type} : List (κ × V) → List (κ × W) → Prop
  | nil : RepF K ρ H [] []
  | cons {k : κ} {v : V} {w : W} {vs : List (κ × V)} {ws : List (κ × W)} : Rep K ρ H v w → RepF K ρ H vs ws → RepF K ρ H ((k, v) :: vs) ((k, w) :: ws)
def RepO (g : G) (ρ : List Addr) (H : Hp) (a : Addr) : O → Prop
  | .lst ws => ∃ vs, H a = some (.lst vs) ∧ RepAll g.K ρ H vs ws
  | .dK ws => ∃ vs, H a = some (.dK vs) ∧ RepF g.K ρ H vs ws
  | .dN _ => False
  | .ins c fs => ∃ dx vs, H a = some (.ins (g.cm c) dx vs) ∧ RepF g.K ρ H vs fs
  | .dead => ∃ o xs, H a = some (.frz o (.lst xs))
structure RelS (g : G) (ρ : List Addr) (S : Store) (H : Hp) : Prop where
  len : ρ.length = S.length
  nd : ρ.Nodup
  obj : ∀ (n : Nat) (o : O), S[n]? = some o → ∃ a, ρ[n]? = some a ∧ RepO g ρ H a o
  tb : LamX.Tabs g.cm.T H
structure RelE (g : G) (ρ : List Addr) (env : Env) (σ : St) (H : Hp) : Prop where
  len : env.length = σ.length
  get : ∀ (i : Nat) (w : W), env[i]? = some (some w) → ∃ v, σ[i]? = some (some v) ∧ Rep g.K ρ H v w
theorem RepF.monM {K : PySem.W.Frag} {ρ ρ' : List Addr} {H H' : Hp} {κ : Type} {vs : List (κ × V)} {ws : List (κ × W)} (r : RepF K ρ H vs ws) (st : Mon ρ H ρ' H') : RepF K ρ' H' vs ws := by
  induction r with
  | nil => exact .nil
  | cons h _ ih => exact .cons (h.monM st) ih
theorem RepF.mono {K : PySem.W.Frag} {ρ ρ' : List Addr} {H H' : Hp} {κ : Type} {vs : List (κ × V)} {ws : List (κ × W)} (r : RepF K ρ H vs ws) (st : Step ρ H ρ' H') : RepF K ρ' H' vs ws := by
  induction r with
  | nil => exact .nil
  | cons h _ ih => exact .cons (h.mono st) ih
theorem RepO.some {g : G} {ρ : List Addr} {H : Hp} {a : Addr} {o : O} (r : RepO g ρ H a o) : ∃ u, H a = some u := by
  cases o with
  | lst ws => obtain ⟨vs, h, _⟩ := r; exact ⟨_, h⟩
  | dK ws => obtain ⟨vs, h, _⟩ := r; exact ⟨_, h⟩
  | dN ws => exact r.elim
  | ins c fs => obtain ⟨dx, vs, h, _⟩ := r; exact ⟨_, h⟩
  | dead => obtain ⟨o, xs, h⟩ := r; exact ⟨_, h⟩
/-- the object itself stands, all values in it too -/
theorem RepO.monM {g : G} {ρ ρ' : List Addr} {H H' : Hp} {a : Addr} {o : O} (r : RepO g ρ H a o) (st : Mon ρ H ρ' H') (e : H' a = H a) : RepO g ρ' H' a o := by
  cases o with
  | lst ws => obtain ⟨vs, h, q⟩ := r; exact ⟨vs, e.trans h, q.monM st⟩
  | dK ws => obtain ⟨vs, h, q⟩ := r; exact ⟨vs, e.trans h, q.monM st⟩
  | dN ws => exact r.elim
  | ins c fs => obtain ⟨dx, vs, h, q⟩ := r; exact ⟨dx, vs, e.trans h, q.monM st⟩
  | dead => obtain ⟨u, xs, h⟩ := r; exact ⟨u, xs, e.trans h⟩
theorem RepO.mono {g : G} {ρ ρ' : List Addr} {H H' : Hp} {a : Addr} {o : O} (r : RepO g ρ H a o) (st : Step ρ H ρ' H') (e : H' a = H a) : RepO g ρ' H' a o := r.monM st.mon e
section
variable {g : G} {ρ ρ' : List Addr} {S : Store} {H H' : Hp} {env : Env} {σ : St} {p : Addr}
theorem RelE.monM (r : RelE g ρ env σ H) (st : Mon ρ H ρ' H') : RelE g ρ' env σ H' := ⟨r.len, fun i w e => let ⟨v, h1, h2⟩ := r.get i w e; ⟨v, h1, h2.monM st⟩⟩
/-- an object that is not of the store changes -/
theorem RelS.other (r : RelS g ρ S H) {u o : HO} (h : H p = some u) (hm : Wr (some u)) (hp : p ∉ ρ) : RelS g ρ S (upd H p o) := ⟨r.len, r.nd, fun n x e => by
  obtain ⟨a, h1, h2⟩ := r.obj n x e
  exact ⟨a, h1, h2.monM (Mon.upd h hm) (by rw [upd_ne (fun z : a = p => hp (by rw [← z]; exact List.mem_of_getElem? h1))])⟩, tabs_of r.tb fun b u e f => by
  rw [upd_ne (fun z => ?_)]; exact e
  subst z; rw [h] at e; cases e; exact hm.fast f⟩
theorem RelE.mono (r : RelE g ρ env σ H) (st : Step ρ H ρ' H') : RelE g ρ' env σ H' := ⟨r.len, fun i w e => let ⟨v, h1, h2⟩ := r.get i w e; ⟨v, h1, h2.mono st⟩⟩
theorem RelS.mem (r : RelS g ρ S H) {a : Addr} (h : a ∈ ρ) : ∃ u, H a = some u := by
  obtain ⟨n, hn⟩ := List.getElem?_of_mem h
  have hl : n < S.length := by rw [← r.len]; exact (List.getElem?_eq_some_iff.mp hn).1
  obtain ⟨b, h1, h2⟩ := r.obj n _ (List.getElem?_eq_getElem hl)
  rw [hn] at h1; cases h1
  exact h2.some
theorem RelS.notin (r : RelS g ρ S H) (h : H p = none) : p ∉ ρ := fun m => by
  obtain ⟨u, e⟩ := r.mem m
  rw [h] at e; cases e
/-- what is new is not of the store -/
theorem RelS.new (r : RelS g ρ S H) {o : HO} (h : H p = none) : RelS g ρ S (upd H p o) := ⟨r.len, r.nd, fun n u e => by
  obtain ⟨a, h1, h2⟩ := r.obj n u e
  refine ⟨a, h1, h2.mono (Step.new h) ?_⟩
  obtain ⟨z, hz⟩ := h2.some
  rw [upd_ne (ne_of_none hz h)], tabs_of r.tb fun b u e _ => by rw [upd_ne (ne_of_none e h)]; exact e⟩
/-- .. is laid in the store -/
theorem RelS.alloc (r : RelS g ρ S H) {o : HO} {u : O} (h : H p = none) (q : RepO g (ρ ++ [p]) (upd H p o) p u) : RelS g (ρ ++ [p]) (S ++ [u]) (upd H p o) where
  len := by rw [List.length_append, List.length_append, r.len]; rfl
  nd := by
    rw [List.nodup_append]
    refine ⟨r.nd, by simp, fun a ha b hb => ?_⟩
    have : b = p := by simpa using hb
    subst this
    exact fun z => r.notin h (z ▸ ha)
  obj := fun n x e => by
    by_cases hn : n < S.length
    · rw [List.getElem?_append_left hn] at e
      obtain ⟨a, h1, h2⟩ := r.obj n x e
      refine ⟨a, by rw [List.getElem?_append_left (by rw [r.len]; exact hn)]; exact h1, h2.mono (Step.alloc h) ?_⟩
      obtain ⟨z, hz⟩ := h2.some
      rw [upd_ne (ne_of_none hz h)]
    · have hl : n < (S ++ [u]).length := (List.getElem?_eq_some_iff.mp e).1
      have en : n = S.length := by rw [List.length_append] at hl; simp at hl; omega
      subst en
      rw [List.getElem?_append_right (Nat.le_refl _)] at e
      simp at e
      subst e
      exact ⟨p, by rw [List.getElem?_append_right (by rw [r.len]; exact Nat.le_refl _), r.len]; simp, q⟩
  tb := tabs_of r.tb fun b u e _ => by rw [upd_ne (ne_of_none e h)]; exact e
/-- an object of the store changes -/
theorem RelS.write (r : RelS g ρ S H) {n : Nat} {o z : HO} {u : O} (hn : ρ[n]? = some p) (hz : H p = some z) (hm : Wr (some z)) (q : RepO g ρ (upd H p o) p u) : RelS g ρ (S.set n u) (upd H p o) where
  len := by rw [List.length_set]; exact r.len
  nd := r.nd
  obj := fun k x e => by
    have hl : n < S.length := by rw [← r.len]; exact (List.getElem?_eq_some_iff.mp hn).1
    by_cases hk : k = n
    · subst hk
      rw [List.getElem?_set_self hl] at e
      cases e
      exact ⟨p, hn, q⟩
    · rw [List.getElem?_set_ne (Ne.symm hk)] at e
      obtain ⟨a, h1, h2⟩ := r.obj k x e
      refine ⟨a, h1, h2.mono (Step.write (List.mem_of_getElem? hn) hz hm) ?_⟩
      rw [upd_ne (fun z => hk ?_)]
      subst z
      exact nodup_ixA r.nd h1 hn
  tb := tabs_of r.tb fun b u e f => by
    rw [upd_ne (fun z => ?_)]; exact e
    subst z; rw [hz] at e; cases e; exact hm.fast f
end

/-! ### readings -/
/-- an exception's own dict -/
def XDict (g : G) (ρ : List Addr) (H : Hp) (d : Option Addr) (fs : List (Str × W)) : Prop := ∃ dd vs, d = some dd ∧ H dd = some (.xd vs) ∧ dd ∉ ρ ∧ RepF g.K ρ H vs fs
/-- state, store and names -/
structure Rel (g : G) (ρ : List Addr) (S : Store) (env : Env) (σ : St) (H : Hp) : Prop where
  s : RelS g ρ S H
  e : RelE g ρ env σ H
def EPost (g : G) (xw : WX) (ρ : List Addr) (env : Env) (σ : St) (H : Hp) (Q : VK) : Res W → Prop
  | .ok w S' => ∀ ρ' v H', Step ρ H ρ' H' → Rel g ρ' S' env σ H' → Rep g.K ρ' H' v w → Q v H'
  | .exn c fs S' => ∀ ρ' d H', Step ρ H ρ' H' → Rel g ρ' S' env σ H' → XDict g ρ' H' d fs → xw (.ref (g.cm c)) d σ H'
  | .bad => False
def liftE (g : G) (xw : WX) (te : Ev) : TE := fun σ H Q => ∃ ρ env S, Rel g ρ S env σ H ∧ EPost g xw ρ env σ H Q (te env S)
def TPost (g : G) (xw : WX) (ρ : List Addr) (env : Env) (σ : St) (H : Hp) (Q : Bool → Hp → Prop) : Res Bool → Prop
  | .ok b S' => ∀ ρ' H', Step ρ H ρ' H' → Rel g ρ' S' env σ H' → Q b H'
  | .exn c fs S' => ∀ ρ' d H', Step ρ H ρ' H' → Rel g ρ' S' env σ H' → XDict g ρ' H' d fs → xw (.ref (g.cm c)) d σ H'
  | .bad => False
def liftT (g : G) (xw : WX) (te : Tv) : TT := fun σ H Q => ∃ ρ env S, Rel g ρ S env σ H ∧ TPost g xw ρ env σ H Q (te env S)
def APost (g : G) (xw : WX) (ρ : List Addr) (env : Env) (σ : St) (H : Hp) (Q : List V → Hp → Prop) : Res (List W) → Prop
  | .ok ws S' => ∀ ρ' vs H', Step ρ H ρ' H' → Rel g ρ' S' env σ H' → RepAll g.K ρ' H' vs ws → Q vs H'
  | .exn c fs S' => ∀ ρ' d H', Step ρ H ρ' H' → Rel g ρ' S' env σ H' → XDict g ρ' H' d fs → xw (.ref (g.cm c)) d σ H'
  | .bad => False
def liftA (g : G) (xw : WX) (ta : Av) : TA := fun σ H Q => ∃ ρ env S, Rel g ρ S env σ H ∧ APost g xw ρ env σ H Q (ta env S)
def SPost (g : G) (xw : WX) (ρ : List Addr) (H : Hp) (D : Ends) : SRes → Prop
  | .nx env' S' => ∀ ρ' σ' H', Step ρ H ρ' H' → Rel g ρ' S' env' σ' H' → D.nx σ' H'
  | .bk env' S' => ∀ ρ' σ' H', Step ρ H ρ' H' → Rel g ρ' S' env' σ' H' → D.bk σ' H'
  | .ct env' S' => ∀ ρ' σ' H', Step ρ H ρ' H' → Rel g ρ' S' env' σ' H' → D.ct σ' H'
  | .rt w S' => ∀ ρ' v H', Step ρ H ρ' H' → RelS g ρ' S' H' → Rep g.K ρ' H' v w → D.rt v H'
  | .exn c fs env' S' => ∀ ρ' σ' d H', Step ρ H ρ' H' → Rel g ρ' S' env' σ' H' → XDict g ρ' H' d fs → xw (.ref (g.cm c)) d σ' H'
  | .bad => False
def liftS (g : G) (xw : WX) (ts : Sv) : TS := fun D σ H => ∃ ρ env S, Rel g ρ S env σ H ∧ SPost g xw ρ H D (ts env S)

section
variable {g : G} {xw : WX} {ρ ρ' : List Addr} {env env' : Env} {σ σ' : St} {H H' : Hp} {S S' : Store}
theorem Rel.step (r : Rel g ρ S env σ H) {S' : Store} (st : Step ρ H ρ' H') (q : RelS g ρ' S' H') : Rel g ρ' S' env σ H' := ⟨q, r.e.mono st⟩
theorem EPost.step {Q : VK} {r : Res W} (st : Step ρ H ρ' H') (h : EPost g xw ρ env σ H Q r) : EPost g xw ρ' env σ H' Q r := by
  cases r with
  | ok w S => exact fun ρ2 v H2 s2 => h ρ2 v H2 (st.trans s2)
  | exn c fs S => exact fun ρ2 v H2 s2 => h ρ2 v H2 (st.trans s2)
  | bad => exact h
theorem TPost.step {Q : Bool → Hp → Prop} {r : Res Bool} (st : Step ρ H ρ' H') (h : TPost g xw ρ env σ H Q r) : TPost g xw ρ' env σ H' Q r := by
  cases r with
  | ok w S => exact fun ρ2 H2 s2 => h ρ2 H2 (st.trans s2)
  | exn c fs S => exact fun ρ2 v H2 s2 => h ρ2 v H2 (st.trans s2)
  | bad => exact h
theorem APost.step {Q : List V → Hp → Prop} {r : Res (List W)} (st : Step ρ H ρ' H') (h : APost g xw ρ env σ H Q r) : APost g xw ρ' env σ H' Q r := by
  cases r with
  | ok w S => exact fun ρ2 v H2 s2 => h ρ2 v H2 (st.trans s2)
  | exn c fs S => exact fun ρ2 v H2 s2 => h ρ2 v H2 (st.trans s2)
  | bad => exact h
theorem SPost.step {D : Ends} {r : SRes} (st : Step ρ H ρ' H') (h : SPost g xw ρ H D r) : SPost g xw ρ' H' D r := by
  cases r with
  | nx e S => exact fun ρ2 v H2 s2 => h ρ2 v H2 (st.trans s2)
  | rt e S => exact fun ρ2 v H2 s2 => h ρ2 v H2 (st.trans s2)
  | bk e S => exact fun ρ2 v H2 s2 => h ρ2 v H2 (st.trans s2)
  | ct e S => exact fun ρ2 v H2 s2 => h ρ2 v H2 (st.trans s2)
  | exn c fs e S => exact fun ρ2 v d H2 s2 => h ρ2 v d H2 (st.trans s2)
  | bad => exact h
/-- from an expression into an expression -/
theorem liftE.bind {te : Ev} {k : W → Store → Res W} {Q Qm : VK} (R : Rel g ρ S env σ H) (P : EPost g xw ρ env σ H Q ((te env S).bind k))
    (h : ∀ ρ1 w S1 v H1, Step ρ H ρ1 H1 → Rel g ρ1 S1 env σ H1 → Rep g.K ρ1 H1 v w → EPost g xw ρ1 env σ H1 Q (k w S1) → Qm v H1) : liftE g xw te σ H Qm := by
  refine ⟨ρ, env, S, R, ?_⟩
  cases e : te env S with
  | ok w S1 =>
    rw [e] at P
    exact fun ρ1 v H1 st R1 r1 => h ρ1 w S1 v H1 st R1 r1 (EPost.step st P)
  | exn c fs S1 => rw [e] at P; exact P
  | bad => rw [e] at P; exact P
theorem liftE.bindT {te : Ev} {k : W → Store → Res Bool} {Q : Bool → Hp → Prop} {Qm : VK} (R : Rel g ρ S env σ H) (P : TPost g xw ρ env σ H Q ((te env S).bind k))
    (h : ∀ ρ1 w S1 v H1, Step ρ H ρ1 H1 → Rel g ρ1 S1 env σ H1 → Rep g.K ρ1 H1 v w → TPost g xw ρ1 env σ H1 Q (k w S1) → Qm v H1) : liftE g xw te σ H Qm := by
  refine ⟨ρ, env, S, R, ?_⟩
  cases e : te env S with
  | ok w S1 =>
    rw [e] at P
    exact fun ρ1 v H1 st R1 r1 => h ρ1 w S1 v H1 st R1 r1 (TPost.step st P)
  | exn c fs S1 => rw [e] at P; exact P
  | bad => rw [e] at P; exact P
theorem liftE.bindA {te : Ev} {k : W → Store → Res (List W)} {Q : List V → Hp → Prop} {Qm : VK} (R : Rel g ρ S env σ H) (P : APost g xw ρ env σ H Q ((te env S).bind k))
    (h : ∀ ρ1 w S1 v H1, Step ρ H ρ1 H1 → Rel g ρ1 S1 env σ H1 → Rep g.K ρ1 H1 v w → APost g xw ρ1 env σ H1 Q (k w S1) → Qm v H1) : liftE g xw te σ H Qm := by
  refine ⟨ρ, env, S, R, ?_⟩
  cases e : te env S with
  | ok w S1 =>
    rw [e] at P
    exact fun ρ1 v H1 st R1 r1 => h ρ1 w S1 v H1 st R1 r1 (APost.step st P)
  | exn c fs S1 => rw [e] at P; exact P
  | bad => rw [e] at P; exact P
theorem liftE.toS {te : Ev} {k : W → Store → SRes} {D : Ends} {Qm : VK} (R : Rel g ρ S env σ H) (P : SPost g xw ρ H D ((te env S).toS env k))
    (h : ∀ ρ1 w S1 v H1, Step ρ H ρ1 H1 → Rel g ρ1 S1 env σ H1 → Rep g.K ρ1 H1 v w → SPost g xw ρ1 H1 D (k w S1) → Qm v H1) : liftE g xw te σ H Qm := by
  refine ⟨ρ, env, S, R, ?_⟩
  cases e : te env S with
  | ok w S1 =>
    rw [e] at P
    exact fun ρ1 v H1 st R1 r1 => h ρ1 w S1 v H1 st R1 r1 (SPost.step st P)
  | exn c fs S1 =>
    rw [e] at P
    exact fun ρ1 d H1 st R1 x1 => P ρ1 σ d H1 st R1 x1
  | bad => rw [e] at P; exact P
theorem liftT.bind {te : Tv} {k : Bool → Store → Res W} {Q : VK} {Qm : Bool → Hp → Prop} (R : Rel g ρ S env σ H) (P : EPost g xw ρ env σ H Q ((te env S).bind k))
    (h : ∀ ρ1 b S1 H1, Step ρ H ρ1 H1 → Rel g ρ1 S1 env σ H1 → EPost g xw ρ1 env σ H1 Q (k b S1) → Qm b H1) : liftT g xw te σ H Qm := by
  refine ⟨ρ, env, S, R, ?_⟩
  cases e : te env S with
  | ok w S1 =>
    rw [e] at P
    exact fun ρ1 H1 st R1 => h ρ1 w S1 H1 st R1 (EPost.step st P)
  | exn c fs S1 => rw [e] at P; exact P
  | bad => rw [e] at P; exact P
theorem liftT.bindT {te : Tv} {k : Bool → Store → Res Bool} {Q : Bool → Hp → Prop} {Qm : Bool → Hp → Prop} (R : Rel g ρ S env σ H) (P : TPost g xw ρ env σ H Q ((te env S).bind k))
    (h : ∀ ρ1 b S1 H1, Step ρ H ρ1 H1 → Rel g ρ1 S1 env σ H1 → TPost g xw ρ1 env σ H1 Q (k b S1) → Qm b H1) : liftT g xw te σ H Qm := by
  refine ⟨ρ, env, S, R, ?_⟩
  cases e : te env S with
  | ok w S1 =>
    rw [e] at P
    exact fun ρ1 H1 st R1 => h ρ1 w S1 H1 st R1 (TPost.step st P)
  | exn c fs S1 => rw [e] at P; exact P
  | bad => rw [e] at P; exact P
theorem liftT.toS {te : Tv} {k : Bool → Store → SRes} {D : Ends} {Qm : Bool → Hp → Prop} (R : Rel g ρ S env σ H) (P : SPost g xw ρ H D ((te env S).toS env k))
    (h : ∀ ρ1 b S1 H1, Step ρ H ρ1 H1 → Rel g ρ1 S1 env σ H1 → SPost g xw ρ1 H1 D (k b S1) → Qm b H1) : liftT g xw te σ H Qm := by
  refine ⟨ρ, env, S, R, ?_⟩
  cases e : te env S with
  | ok w S1 =>
    rw [e] at P
    exact fun ρ1 H1 st R1 => h ρ1 w S1 H1 st R1 (SPost.step st P)
  | exn c fs S1 =>
    rw [e] at P
    exact fun ρ1 d H1 st R1 x1 => P ρ1 σ d H1 st R1 x1
  | bad => rw [e] at P; exact P
theorem liftA.bind {te : Av} {k : List W → Store → Res W} {Q : VK} {Qm : List V → Hp → Prop} (R : Rel g ρ S env σ H) (P : EPost g xw ρ env σ H Q ((te env S).bind k))
    (h : ∀ ρ1 ws S1 vs H1, Step ρ H ρ1 H1 → Rel g ρ1 S1 env σ H1 → RepAll g.K ρ1 H1 vs ws → EPost g xw ρ1 env σ H1 Q (k ws S1) → Qm vs H1) : liftA g xw te σ H Qm := by
  refine ⟨ρ, env, S, R, ?_⟩
  cases e : te env S with
  | ok w S1 =>
    rw [e] at P
    exact fun ρ1 v H1 st R1 r1 => h ρ1 w S1 v H1 st R1 r1 (EPost.step st P)
  | exn c fs S1 => rw [e] at P; exact P
  | bad => rw [e] at P; exact P
theorem liftA.bindA {te : Av} {k : List W → Store → Res (List W)} {Q : List V → Hp → Prop} {Qm : List V → Hp → Prop} (R : Rel g ρ S env σ H) (P : APost g xw ρ env σ H Q ((te env S).bind k))
    (h : ∀ ρ1 ws S1 vs H1, Step ρ H ρ1 H1 → Rel g ρ1 S1 env σ H1 → RepAll g.K ρ1 H1 vs ws → APost g xw ρ1 env σ H1 Q (k ws S1) → Qm vs H1) : liftA g xw te σ H Qm := by
  refine ⟨ρ, env, S, R, ?_⟩
  cases e : te env S with
  | ok w S1 =>
    rw [e] at P
    exact fun ρ1 v H1 st R1 r1 => h ρ1 w S1 v H1 st R1 r1 (APost.step st P)
  | exn c fs S1 => rw [e] at P; exact P
  | bad => rw [e] at P; exact P
end

/-! ### judgements over the layer's own -/
theorem _root_.L2.PE.wimp {X : Cx} {e : Expr} {t t' : TE} (h : PE X e t) (i : ∀ σ H Q, t' σ H Q → t σ H Q) : PE X e t' := ⟨fun pins s σ H Q I q => h.run pins s σ H Q I (i σ H Q q)⟩
theorem _root_.L2.PT.wimp {X : Cx} {e : Expr} {t t' : TT} (h : PT X e t) (i : ∀ σ H Q, t' σ H Q → t σ H Q) : PT X e t' := ⟨fun pins s σ H Q I q => h.run pins s σ H Q I (i σ H Q q)⟩
theorem _root_.L2.PA.wimp {X : Cx} {es : List Expr} {t t' : TA} (h : PA X es t) (i : ∀ σ H Q, t' σ H Q → t σ H Q) : PA X es t' := ⟨fun pos pins s σ H Q I q => h.run pos pins s σ H Q I (i σ H Q q)⟩
theorem _root_.L2.PS.wimp {X : Cx} {st : Stmt} {t t' : TS} (h : PS X st t) (i : ∀ D σ H, t' D σ H → t D σ H) : PS X st t' := ⟨fun pins s σ H D I q => h.run pins s σ H D I (i D σ H q)⟩
theorem _root_.L2.PSs.wimp {X : Cx} {st : List Stmt} {t t' : TS} (h : PSs X st t) (i : ∀ D σ H, t' D σ H → t D σ H) : PSs X st t' := ⟨fun pins s σ H D I q => h.run pins s σ H D I (i D σ H q)⟩
/-- the context's written part is the layer's -/
abbrev EW (X : Cx) (cm : CM) (xw : WX) (e : Expr) (te : Ev) : Prop := PE X e (liftE ⟨X.K, cm⟩ xw te)
abbrev TW (X : Cx) (cm : CM) (xw : WX) (e : Expr) (te : Tv) : Prop := PT X e (liftT ⟨X.K, cm⟩ xw te)
abbrev AW (X : Cx) (cm : CM) (xw : WX) (e : List Expr) (te : Av) : Prop := PA X e (liftA ⟨X.K, cm⟩ xw te)
abbrev SW (X : Cx) (cm : CM) (xw : WX) (e : Stmt) (te : Sv) : Prop := PS X e (liftS ⟨X.K, cm⟩ xw te)
abbrev SWs (X : Cx) (cm : CM) (xw : WX) (e : List Stmt) (te : Sv) : Prop := PSs X e (liftS ⟨X.K, cm⟩ xw te)

section
variable {X : Cx} {cm : CM} {xw : WX} {pos : Pos} {a b : Expr} {es : List Expr} {ta tb : Ev} {te : Ev} {tr : Av}
theorem ew_var {i : Nat} {x : Str} (hN : X.N[i]? = some x := by rfl) (hv : Vis X.env.scope x := by first | exact Or.inl rfl | exact Or.inr (Or.inl rfl) | exact Or.inr (Or.inr rfl))
    (hd : (x == ("__debug__" : Str)) = false := by decide) (hcd : (x == ("__classdict__" : Str)) = false := by decide) : EW X cm xw (.Name x pos) (eVar i) := by
  refine (pe_var hN hv hd hcd).wimp fun σ H Q ⟨ρ, env, S, R, P⟩ => ?_
  unfold eVar at P
  split at P
  · rename_i w hw
    obtain ⟨v, h1, h2⟩ := R.e.get _ _ hw
    exact ⟨v, h1, P ρ v H (Step.refl _ _) R h2⟩
  · exact P.elim
theorem ew_int {i j} : EW X cm xw (.Constant (.int i) j pos) (eC (.int i)) := pe_int.wimp fun σ H Q ⟨ρ, env, S, R, P⟩ => P ρ _ H (Step.refl _ _) R (.int i)
theorem ew_bl {i j} : EW X cm xw (.Constant (.bool i) j pos) (eC (.bl i)) := pe_bl.wimp fun σ H Q ⟨ρ, env, S, R, P⟩ => P ρ _ H (Step.refl _ _) R (.bl i)
theorem ew_non {j} : EW X cm xw (.Constant .none j pos) (eC .non) := pe_non.wimp fun σ H Q ⟨ρ, env, S, R, P⟩ => P ρ _ H (Step.refl _ _) R .non
theorem ew_str {x j} : EW X cm xw (.Constant (.str x) j pos) (eC (.str x)) := pe_str.wimp fun σ H Q ⟨ρ, env, S, R, P⟩ => P ρ _ H (Step.refl _ _) R (.str x)
theorem aw_nil : AW X cm xw [] aNil := pa_nil.wimp fun σ H Q ⟨ρ, env, S, R, P⟩ => P ρ _ H (Step.refl _ _) R .nil
theorem aw_cons (ha : EW X cm xw a ta) (hr : AW X cm xw es tr) (hs : starEach (a :: es) X.env = (false, eval a X.env) :: starEach es X.env := by rfl) : AW X cm xw (a :: es) (aCons ta tr) := by
  refine (pa_cons ha hr hs).wimp fun σ H Q ⟨ρ, env, S, R, P⟩ => ?_
  refine liftE.bindA R P fun ρ1 w S1 v H1 st R1 r1 P1 => liftA.bindA R1 P1 fun ρ2 ws S2 vs H2 st2 R2 r2 P2 => ?_
  exact P2 ρ2 _ H2 (Step.refl _ _) R2 (.cons (r1.mono st2) r2)
theorem lim_line {n : Nat} (h : n ≤ LIM) : n ≤ sizeLine := Nat.le_trans h (by rw [sizeLine_eq]; decide)
theorem ew_tup {x1} (h : AW X cm xw es tr) : EW X cm xw (.Tuple es x1 pos) (eTup tr) := by
  refine (pe_tup h).wimp fun σ H Q ⟨ρ, env, S, R, P⟩ => ?_
  refine liftA.bind R P fun ρ1 ws S1 vs H1 st R1 r1 P1 => ?_
  split at P1
  · rename_i hl
    refine ⟨lim_line (by rw [r1.length]; exact hl), fun p hp => ?_⟩
    have st2 : Step ρ1 H1 ρ1 (upd H1 p (.tup vs)) := Step.new hp
    exact P1 ρ1 _ _ st2 (R1.step st2 (R1.s.new hp)) (.tup (.inl (.inl upd_same)) (r1.mono st2))
  · exact P1.elim
theorem ew_lstS (h : AW X cm xw es tr) : EW X cm xw (.List es pos) (eLstS tr) := by
  refine (pe_lst h).wimp fun σ H Q ⟨ρ, env, S, R, P⟩ => ?_
  refine liftA.bind R P fun ρ1 ws S1 vs H1 st R1 r1 P1 => ?_
  split at P1
  · rename_i hl
    refine ⟨lim_line (by rw [r1.length]; exact hl), fun p hp => ?_⟩
    have st2 : Step ρ1 H1 (ρ1 ++ [p]) (upd H1 p (.lst vs)) := Step.alloc hp
    refine P1 _ _ _ st2 (R1.step st2 (R1.s.alloc hp ⟨vs, upd_same, r1.mono st2⟩)) (.ref ?_)
    rw [← R1.s.len, List.getElem?_append_right (Nat.le_refl _)]; simp
  · exact P1.elim
end

/-! ### lists that are frozen -/
section
variable {X : Cx} {pins : List (Addr × Obj)} {σ : St} {H : Hp} {s : Shared}
theorem inv_frz {p : Addr} {xs : List V} (I : Inv X pins σ H s) (h : H p = some (.lst xs)) : ∃ o, Inv X pins σ (upd H p (.frz o (.lst xs))) s := by
  obtain ⟨z, its, n, r, e⟩ := I.hok p _ h
  refine ⟨{ cls := .type "list", data := .seq its.toArray n }, ⟨I.ok, I.os, I.bare, ⟨I.base.keep, I.base.slot, fun b o q m hx => ?_, I.base.there, fun b ys q => ?_, fun b o u q => ?_, fun b ps q => ?_⟩, I.loc, I.cell, ?_, fun x c q => ?_, fun q hq => ?_, fun a o q => ?_, I.len⟩⟩
  · have := I.base.free b o q m hx
    rw [upd_ne (fun z => by rw [z, h] at this; cases this)]; exact this
  · have := I.base.tups b ys q
    rw [upd_ne (fun z => by rw [z, h] at this; cases this)]; exact this
  · have := I.base.frzs b o u q
    rw [upd_ne (fun z => by rw [z, h] at this; cases this)]; exact this
  · obtain ⟨more, this⟩ := I.base.tbls b ps q
    exact ⟨more, by rw [upd_ne (fun z => by rw [z, h] at this; cases this)]; exact this⟩
  · have := I.free
    rw [upd_ne (fun z => by rw [z, h] at this; cases this)]; exact this
  · have := I.freeC x c q
    rw [upd_ne (fun z => by rw [z, h] at this; cases this)]; exact this
  · obtain ⟨h1, h2, h3⟩ := I.pin q hq
    exact ⟨h1, by rw [upd_ne (fun z => by rw [z, h] at h2; cases h2)]; exact h2, h3⟩
  · by_cases ha : a = p
    · subst ha
      rw [upd_same] at q; cases q
      exact ⟨e, z, its, n, r, e⟩
    · rw [upd_ne ha] at q
      refine (I.hok a o q).stay (fun b u _ k => k) (fun b k => ?_) (fun b ys k => ?_)
      · rw [upd_ne (fun z => by rw [z, h] at k; cases k)]; exact k
      · rw [upd_ne (fun z => by rw [z, h] at k; cases k)]; exact k
/-- the value is a new list, and it is frozen -/
def Fz (Q : VK) : VK := fun v H => ∃ p xs, v = .ref p ∧ H p = some (.lst xs) ∧ ∀ o, Q v (upd H p (.frz o (.lst xs)))
theorem ep_fz {Q : VK} {u : Value} (h : EP X pins σ (Fz Q) u s) : EP X pins σ Q u s := by
  obtain ⟨v, H', I, r, p, xs, rfl, hp, q⟩ := h
  obtain ⟨o, J⟩ := inv_frz I hp
  exact ⟨_, _, J, r, q o⟩
theorem pe_fz {e : Expr} {t : TE} (h : PE X e t) : PE X e (fun σ H Q => t σ H (Fz Q)) := ⟨fun pins s σ H Q I q => thn (h.run pins s σ H _ I q) fun _ _ z => ep_fz z⟩
theorem op_fz {F : Value → Value → Sem Value} {r : R2} (h : OpR X F r) : OpR X F (fun x y H Q => r x y H (Fz Q)) := fun pins s σ H x y v u Q I rx ry q => thn (h pins s σ H x y v u _ I rx ry q) fun _ _ z => ep_fz z
theorem call_fz {F : Value} {r : List V → Hp → VK → Prop} (h : CallR X F r) : CallR X F (fun vs H Q => r vs H (Fz Q)) := fun pins s σ H vs us Q I rv q => thn (h pins s σ H vs us _ I rv q) fun _ _ z => ep_fz z
end

section
variable {X : Cx} {cm : CM} {xw : WX} {pos : Pos} {a b : Expr} {es : List Expr} {ta tb : Ev} {te : Ev} {tr : Av}
theorem Step.frz {ρ : List Addr} {H : Hp} {p : Addr} {o : Obj} {xs : List V} (h : H p = none) : Step ρ H ρ (upd (upd H p (.lst xs)) p (.frz o (.lst xs))) := by rw [upd_upd]; exact Step.new h
/-- a new list, frozen -/
theorem fz_new {g : G} {ρ : List Addr} {S : Store} {H : Hp} {p : Addr} {vs : List V} {ws : List W} (hp : H p = none) (R : RelS g ρ S H) (r : RepAll g.K ρ H vs ws) {Q : VK}
    (h : ∀ ρ' v H', Step ρ H ρ' H' → RelS g ρ' S H' → Rep g.K ρ' H' v (.lst ws) → Q v H') : Fz Q (.ref p) (upd H p (.lst vs)) := by
  refine ⟨p, vs, rfl, upd_same, fun o => ?_⟩
  rw [upd_upd]
  have st : Step ρ H ρ (upd H p (.frz o (.lst vs))) := Step.new hp
  exact h ρ _ _ st (R.new hp) (.lst ⟨o, upd_same⟩ (r.mono st))
/-- a new list, in the store -/
theorem st_new {g : G} {ρ : List Addr} {S : Store} {H : Hp} {p : Addr} {vs : List V} {ws : List W} (hp : H p = none) (R : RelS g ρ S H) (r : RepAll g.K ρ H vs ws) {Q : VK}
    (h : ∀ ρ' v H', Step ρ H ρ' H' → RelS g ρ' (S ++ [.lst ws]) H' → Rep g.K ρ' H' v (.ref S.length) → Q v H') : Q (.ref p) (upd H p (.lst vs)) := by
  have st : Step ρ H (ρ ++ [p]) (upd H p (.lst vs)) := Step.alloc hp
  refine h _ _ _ st (R.alloc hp ⟨vs, upd_same, r.mono st⟩) (.ref ?_)
  rw [← R.len, List.getElem?_append_right (Nat.le_refl _)]; simp
theorem tu_new {g : G} {ρ : List Addr} {S : Store} {H : Hp} {p : Addr} {vs : List V} {ws : List W} (hp : H p = none) (R : RelS g ρ S H) (r : RepAll g.K ρ H vs ws) {Q : VK}
    (h : ∀ ρ' v H', Step ρ H ρ' H' → RelS g ρ' S H' → Rep g.K ρ' H' v (.tup ws) → Q v H') : Q (.ref p) (upd H p (.tup vs)) := by
  have st : Step ρ H ρ (upd H p (.tup vs)) := Step.new hp
  exact h ρ _ _ st (R.new hp) (.tup (.inl (.inl upd_same)) (r.mono st))
theorem ew_lst (h : AW X cm xw es tr) : EW X cm xw (.List es pos) (eLst tr) := by
  refine (pe_fz (pe_lst h)).wimp fun σ H Q ⟨ρ, env, S, R, P⟩ => ?_
  refine liftA.bind R P fun ρ1 ws S1 vs H1 st R1 r1 P1 => ?_
  split at P1
  · rename_i hl
    exact ⟨lim_line (by rw [r1.length]; exact hl), fun p hp => fz_new hp R1.s r1 fun ρ2 v H2 st2 R2 r2 => P1 ρ2 v H2 st2 (R1.step st2 R2) r2⟩
  · exact P1.elim

/-! ### operators by values -/
def OPost (g : G) (ρ : List Addr) (H : Hp) (Q : VK) : Res W → Prop
  | .ok w S' => ∀ ρ' v H', Step ρ H ρ' H' → RelS g ρ' S' H' → Rep g.K ρ' H' v w → Q v H'
  | _ => False
def liftO (g : G) (f : W → W → Store → Res W) : R2 := fun x y H Q => ∃ ρ S w1 w2, RelS g ρ S H ∧ Rep g.K ρ H x w1 ∧ Rep g.K ρ H y w2 ∧ OPost g ρ H Q (f w1 w2 S)
/-- raises nothing -/
def Quiet (r : Res W) : Prop := ∀ c fs S, r ≠ .exn c fs S
structure OpW (X : Cx) (cm : CM) (F : Value → Value → Sem Value) (f : W → W → Store → Res W) : Prop where
  run : OpR X F (liftO ⟨X.K, cm⟩ f)
  quiet : ∀ x y S, Quiet (f x y S)
theorem EPost.op {g : G} {ρ : List Addr} {env : Env} {σ : St} {S : Store} {H : Hp} {Q : VK} {r : Res W} (R : Rel g ρ S env σ H) (q : Quiet r) (P : EPost g xw ρ env σ H Q r) : OPost g ρ H Q r := by
  cases r with
  | ok w S' => exact fun ρ' v H' st R' r' => P ρ' v H' st (R.step st R') r'
  | exn c fs S' => exact absurd rfl (q c fs S')
  | bad => exact P
theorem ew_op {op : Operator} {f : W → W → Store → Res W} (ho : OpW X cm (binaryOp op) f) (ha : EW X cm xw a ta) (hb : EW X cm xw b tb) : EW X cm xw (.BinOp a op b pos) (eOp f ta tb) := by
  refine (pe_op ho.run ha hb).wimp fun σ H Q ⟨ρ, env, S, R, P⟩ => ?_
  refine liftE.bind R P fun ρ1 w1 S1 v1 H1 st1 R1 r1 P1 => liftE.bind R1 P1 fun ρ2 w2 S2 v2 H2 st2 R2 r2 P2 => ?_
  exact ⟨ρ2, S2, w1, w2, R2.s, r1.mono st2, r2, P2.op R2 (ho.quiet _ _ _)⟩
theorem ew_cmp {op : CmpOp} {f : W → W → Store → Res W} (ho : OpW X cm (compareOp op) f) (ha : EW X cm xw a ta) (hb : EW X cm xw b tb) (hm : behindInMarks op b = false := by first | exact nomark _ | rfl) : EW X cm xw (.Compare a [op] [b] pos) (eOp f ta tb) := by
  refine (pe_cmpR ho.run ha hb hm).wimp fun σ H Q ⟨ρ, env, S, R, P⟩ => ?_
  refine liftE.bind R P fun ρ1 w1 S1 v1 H1 st1 R1 r1 P1 => liftE.bind R1 P1 fun ρ2 w2 S2 v2 H2 st2 R2 r2 P2 => ?_
  exact ⟨ρ2, S2, w1, w2, R2.s, r1.mono st2, r2, P2.op R2 (ho.quiet _ _ _)⟩
/-- the same as a test -/
theorem tw_cmp {op : CmpOp} {f : W → W → Store → Res W} (ho : OpW X cm (compareOp op) f) (ha : EW X cm xw a ta) (hb : EW X cm xw b tb) (hm : behindInMarks op b = false := by first | exact nomark _ | rfl) : TW X cm xw (.Compare a [op] [b] pos) (tVal (eOp f ta tb)) := by
  refine (pt_cmpR ho.run ha hb hm).wimp fun σ H Q ⟨ρ, env, S, R, P⟩ => ?_
  unfold tVal eOp at P
  rw [Res.bind_assoc] at P
  refine liftE.bindT R P fun ρ1 w1 S1 v1 H1 st1 R1 r1 P1 => ?_
  rw [Res.bind_assoc] at P1
  refine liftE.bindT R1 P1 fun ρ2 w2 S2 v2 H2 st2 R2 r2 P2 => ?_
  refine ⟨ρ2, S2, w1, w2, R2.s, r1.mono st2, r2, ?_⟩
  have q := ho.quiet w1 w2 S2
  revert P2 q
  cases f w1 w2 S2 with
  | ok w S' =>
    intro P2 q ρ' v H' st R' r'
    cases w with
    | bl k => cases r'; exact ⟨k, rfl, P2 ρ' H' st (R2.step st R')⟩
    | _ => exact P2.elim
  | exn c fs S' => intro _ q; exact absurd rfl (q c fs S')
  | bad => intro P2 _; exact P2
/-- whole numbers -/
theorem opW_int {F : Value → Value → Sem Value} {f : W → W → Store → Res W} {C : Int → Int → Prop} {u : Int → Int → V} (ho : OpR X F (rI C u)) (w : Int → Int → W) (hu : ∀ i j ρ H, Rep X.K ρ H (u i j) (w i j))
    (hf : ∀ x y S, (∃ i j, x = .int i ∧ y = .int j ∧ C i j ∧ f x y S = .ok (w i j) S) ∨ f x y S = .bad) : OpW X cm F f where
  run := fun pins s σ H x y v u' Q I rx ry ⟨ρ, S, w1, w2, R, r1, r2, P⟩ => by
    rcases hf w1 w2 S with ⟨i, j, rfl, rfl, hc, e⟩ | e
    · cases r1; cases r2
      rw [e] at P
      exact ho pins s σ H _ _ v u' Q I rx ry ⟨i, j, rfl, rfl, hc, P ρ _ H (Step.refl _ _) R (hu i j ρ H)⟩
    · rw [e] at P; exact P.elim
  quiet := fun x y S c fs S' z => by
    rcases hf x y S with ⟨i, j, _, _, _, e⟩ | e <;> rw [e] at z <;> cases z
theorem rI_of0 {F : Value → Value → Sem Value} {u : Int → Int → V} (h : OpR X F (rI0 u)) : OpR X F (rI (fun _ _ => True) u) := fun pins s σ H x y v w Q I rx ry ⟨i, j, e1, e2, _, q⟩ => h pins s σ H x y v w Q I rx ry ⟨i, j, e1, e2, q⟩
theorem ow_sub : OpW X cm (binaryOp .Sub) subW := opW_int (rI_of0 op_sub) (fun i j => .int (i - j)) (fun _ _ _ _ => .int _) fun x y S => by
  cases x <;> cases y <;> first | exact .inr rfl | exact .inl ⟨_, _, rfl, rfl, trivial, rfl⟩
theorem ow_mul : OpW X cm (binaryOp .Mult) mulW := opW_int op_mulW (fun i j => .int (i * j)) (fun _ _ _ _ => .int _) fun x y S => by
  cases x <;> cases y <;> first | exact .inr rfl | skip
  rename_i i j
  by_cases h : mulOk i j
  · exact .inl ⟨_, _, rfl, rfl, h, if_pos h⟩
  · exact .inr (if_neg h)
theorem ow_fdiv : OpW X cm (binaryOp .FloorDiv) fdivW := opW_int op_fdivW (fun i j => .int (i / j)) (fun _ _ _ _ => .int _) fun x y S => by
  cases x <;> cases y <;> first | exact .inr rfl | skip
  rename_i i j
  by_cases h : divOk j
  · exact .inl ⟨_, _, rfl, rfl, h, if_pos h⟩
  · exact .inr (if_neg h)
theorem ow_mod : OpW X cm (binaryOp .Mod) modW := opW_int op_mod (fun i j => .int (i % j)) (fun _ _ _ _ => .int _) fun x y S => by
  cases x <;> cases y <;> first | exact .inr rfl | skip
  rename_i i j
  by_cases h : 0 < j
  · exact .inl ⟨_, _, rfl, rfl, h, if_pos h⟩
  · exact .inr (if_neg h)
theorem ow_pow : OpW X cm (binaryOp .Pow) powW := opW_int op_pow (fun i j => .int (i ^ j.toNat)) (fun _ _ _ _ => .int _) fun x y S => by
  cases x <;> cases y <;> first | exact .inr rfl | skip
  rename_i i j
  by_cases h : powOk i j
  · exact .inl ⟨_, _, rfl, rfl, h, if_pos h⟩
  · exact .inr (if_neg h)
theorem opW_cmpI {F : Value → Value → Sem Value} {p : Int → Int → Bool} (h : OpR X F (rI0 fun i j => .bl (p i j))) : OpW X cm F (cmpI p) := opW_int (rI_of0 h) (fun i j => .bl (p i j)) (fun _ _ _ _ => .bl _) fun x y S => by
  cases x <;> cases y <;> first | exact .inr rfl | exact .inl ⟨_, _, rfl, rfl, trivial, rfl⟩
theorem ow_lt : OpW X cm (compareOp .Lt) ltW := opW_cmpI op_lt
theorem ow_le : OpW X cm (compareOp .LtE) leW := opW_cmpI op_le
theorem ow_gt : OpW X cm (compareOp .Gt) gtW := opW_cmpI op_gt
theorem ow_ge : OpW X cm (compareOp .GtE) geW := opW_cmpI op_ge
end

/-! ### lists, tuples, data -/
section
variable {g : G} {ρ : List Addr} {S : Store} {H : Hp} {v : V} {w : W} {ws : List W}
theorem seqL_rep (R : RelS g ρ S H) (r : Rep g.K ρ H v w) (e : seqL w S = some ws) : ∃ a vs, v = .ref a ∧ Rd H a (.lst vs) ∧ RepAll g.K ρ H vs ws := by
  cases r with
  | lst h q => cases e; exact ⟨_, _, rfl, h.rd, q⟩
  | ref h =>
    unfold seqL at e
    dsimp only at e
    split at e
    · rename_i xs hx
      cases e
      obtain ⟨a, h1, vs, h2, h3⟩ := R.obj _ _ hx
      rw [h] at h1; cases h1
      exact ⟨_, vs, rfl, .inl h2, h3⟩
    · cases e
  | _ => cases e
theorem seqR_rep (R : RelS g ρ S H) (r : Rep g.K ρ H v w) (e : seqR w S = some ws) : ∃ a vs, v = .ref a ∧ SqL g.K H a vs ∧ RepAll g.K ρ H vs ws := by
  cases r with
  | xls h q => cases e; exact ⟨_, _, rfl, h.sq, q⟩
  | lst h q => obtain ⟨a, vs, h1, h2, h3⟩ := seqL_rep R (.lst h q) e; exact ⟨a, vs, h1, .inl h2, h3⟩
  | ref h => obtain ⟨a, vs, h1, h2, h3⟩ := seqL_rep R (.ref h) e; exact ⟨a, vs, h1, .inl h2, h3⟩
  | _ => cases e
theorem seqT_rep (R : RelS g ρ S H) (r : Rep g.K ρ H v w) (e : seqT w S = some ws) : ∃ a vs, v = .ref a ∧ (SqL g.K H a vs ∨ SqT g.K H a vs) ∧ RepAll g.K ρ H vs ws := by
  cases r with
  | tup h q => cases e; exact ⟨_, _, rfl, .inr h, q⟩
  | xls h q => cases e; exact ⟨_, _, rfl, .inl h.sq, q⟩
  | lst h q => obtain ⟨a, vs, h1, h2, h3⟩ := seqL_rep R (.lst h q) e; exact ⟨a, vs, h1, .inl (.inl h2), h3⟩
  | ref h => obtain ⟨a, vs, h1, h2, h3⟩ := seqL_rep R (.ref h) e; exact ⟨a, vs, h1, .inl (.inl h2), h3⟩
  | _ => cases e
end
theorem FzL.dp {K : PySem.W.Frag} {H : Hp} {a : Addr} {xs : List V} (h : FzL K H a xs) : SqL K H a xs := h.sq
theorem dp_all {K : PySem.W.Frag} {ρ : List Addr} {H : Hp} {P : W → Prop} (h : ∀ v w, Rep K ρ H v w → P w → Dp K H v w.data) : ∀ {vs : List V} {ws : List W}, RepAll K ρ H vs ws → (∀ w ∈ ws, P w) → DpAll K H vs (W.dataL ws)
  | _, _, .nil, _ => .nil
  | _, _, .cons r q, f => .cons (h _ _ r (f _ List.mem_cons_self)) (dp_all h q fun w hw => f w (List.mem_cons_of_mem _ hw))
theorem Rep.dp {K : PySem.W.Frag} {ρ : List Addr} {H : Hp} : ∀ (n : Nat) (v : V) (w : W), Rep K ρ H v w → w.okD n = true → Dp K H v w.data := by
  intro n
  induction n with
  | zero =>
    intro v w r h
    cases r with
    | non => exact .non
    | bl b => exact .bl b
    | int i => exact .int i
    | str x => exact .str x
    | _ => simp [W.okD] at h
  | succ n ih =>
    intro v w r h
    cases r with
    | non => exact .non
    | bl b => exact .bl b
    | int i => exact .int i
    | str x => exact .str x
    | tup a q => exact .tup a (dp_all (P := fun w => w.okD n = true) ih q (by simpa [W.okD] using h))
    | lst a q => exact .lst (.inl a.rd) (dp_all (P := fun w => w.okD n = true) ih q (by simpa [W.okD] using h))
    | xls _ _ => simp [W.okD] at h
    | ref _ => simp [W.okD] at h
theorem okD_all {P : W → Prop} {L : PyData → Bool} (n : Nat) (ih : ∀ w : W, w.okD n = true → w.data.canLay0 = true ∧ w.data.depth ≤ n) : ∀ (ws : List W), (∀ w ∈ ws, w.okD n = true) → PyData.canLayAll0 (W.dataL ws) = true ∧ PyData.depthAll (W.dataL ws) ≤ n
  | [], _ => ⟨by simp [W.dataL, PyData.canLayAll0], by simp [W.dataL, PyData.depthAll]⟩
  | w :: ws, h => by
    obtain ⟨a1, a2⟩ := ih w (h w List.mem_cons_self)
    obtain ⟨b1, b2⟩ := okD_all (P := P) (L := L) n ih ws fun x hx => h x (List.mem_cons_of_mem _ hx)
    simp only [W.dataL, PyData.canLayAll0, PyData.depthAll, a1, b1, Bool.and_self, true_and]
    exact Nat.max_le.mpr ⟨a2, b2⟩
theorem okD_lay : ∀ (n : Nat) (w : W), w.okD n = true → w.data.canLay0 = true ∧ w.data.depth ≤ n := by
  intro n
  induction n with
  | zero =>
    intro w h
    cases w <;> simp [W.okD] at h <;> simp [W.data, PyData.canLay0, PyData.depth] <;> exact h
  | succ n ih =>
    intro w h
    cases w with
    | non => simp [W.data, PyData.canLay0, PyData.depth]
    | bl b => simp [W.data, PyData.canLay0, PyData.depth]
    | int i => simp [W.data, PyData.canLay0, PyData.depth]
    | str x => simp [W.okD] at h; simp [W.data, PyData.canLay0, PyData.depth]; exact h
    | tup xs =>
      obtain ⟨a, b⟩ := okD_all (P := fun _ => True) (L := fun _ => true) n ih xs (by simpa [W.okD] using h)
      simp only [W.data, PyData.canLay0, PyData.depth, a, true_and]
      omega
    | lst xs =>
      obtain ⟨a, b⟩ := okD_all (P := fun _ => True) (L := fun _ => true) n ih xs (by simpa [W.okD] using h)
      simp only [W.data, PyData.canLay0, PyData.depth, a, true_and]
      omega
    | xls xs => simp [W.okD] at h
    | ref m => simp [W.okD] at h
theorem okD_shaped {w : W} (h : w.okD DEEP = true) : SeqAt.shaped w.data = true := by
  obtain ⟨a, b⟩ := okD_lay _ w h
  unfold SeqAt.shaped
  rw [a, decide_eq_true (Nat.le_trans b (by decide))]; rfl
theorem eqvL_data (n : Nat) (ih : ∀ x y : W, x.okD n = true → y.okD n = true → PyData.eqv x.data y.data = W.eqv x y) : ∀ xs ys : List W, (∀ x ∈ xs, x.okD n = true) → (∀ x ∈ ys, x.okD n = true) → PyData.eqvAll (W.dataL xs) (W.dataL ys) = W.eqvL xs ys
  | [], [], _, _ => by simp [W.dataL, PyData.eqvAll, W.eqvL]
  | [], _ :: _, _, _ => by simp [W.dataL, PyData.eqvAll, W.eqvL]
  | _ :: _, [], _, _ => by simp [W.dataL, PyData.eqvAll, W.eqvL]
  | x :: xs, y :: ys, hx, hy => by
    simp only [W.dataL, PyData.eqvAll, W.eqvL]
    rw [ih x y (hx x List.mem_cons_self) (hy y List.mem_cons_self), eqvL_data n ih xs ys (fun z hz => hx z (List.mem_cons_of_mem _ hz)) (fun z hz => hy z (List.mem_cons_of_mem _ hz))]
theorem eqv_data : ∀ (n : Nat) (x y : W), x.okD n = true → y.okD n = true → PyData.eqv x.data y.data = W.eqv x y := by
  intro n
  induction n with
  | zero =>
    intro x y hx hy
    cases x <;> cases y <;> simp [W.okD] at hx hy <;> simp [W.data, PyData.eqv, W.eqv]
  | succ n ih =>
    intro x y hx hy
    cases x <;> cases y <;> first | (simp [W.okD] at hx; done) | (simp [W.okD] at hy; done) | skip
    all_goals first
      | (simp [W.data, PyData.eqv, W.eqv]; done)
      | (simp only [W.data, PyData.eqv, W.eqv]; exact eqvL_data n ih _ _ (by simpa [W.okD] using hx) (by simpa [W.okD] using hy))
theorem deref_rep {g : G} {ρ : List Addr} {S : Store} {H : Hp} {v : V} {w : W} (R : RelS g ρ S H) (r : Rep g.K ρ H v w) {n : Nat} (h : (deref w S).okD n = true) : Dp g.K H v (deref w S).data := by
  cases r with
  | ref hr =>
    unfold deref at h ⊢
    dsimp only at h ⊢
    split at h
    · rename_i xs hx
      obtain ⟨a, h1, vs, h2, h3⟩ := R.obj _ _ hx
      rw [hr] at h1; cases h1
      cases n with
      | zero => simp [W.okD] at h
      | succ n => exact .lst (.inl (.inl h2)) (dp_all (P := fun w => w.okD n = true) (Rep.dp n) h3 (by simpa [W.okD] using h))
    · simp [W.okD] at h
  | xls a q =>
    cases n with
    | zero => simp [deref, W.okD] at h
    | succ n => exact .lst a.sq (dp_all (P := fun w => w.okD n = true) (Rep.dp n) q (by simpa [deref, W.okD] using h))
  | non => exact Rep.dp (ρ := ρ) n _ _ .non h
  | bl b => exact Rep.dp (ρ := ρ) n _ _ (.bl b) h
  | int i => exact Rep.dp (ρ := ρ) n _ _ (.int i) h
  | str x => exact Rep.dp (ρ := ρ) n _ _ (.str x) h
  | tup a q => exact Rep.dp n _ _ (.tup a q) h
  | lst a q => exact Rep.dp n _ _ (.lst a q) h
section
variable {X : Cx} {cm : CM} {xw : WX}
theorem ow_eq (hu : X.A.units + 65 < cLine) : OpW X cm (compareOp .Eq) eqW where
  run := fun pins s σ H x y v u Q I rx ry ⟨ρ, S, w1, w2, R, r1, r2, P⟩ => by
    unfold eqW at P
    split at P
    · rename_i h
      exact op_eqD (by omega) pins s σ H x y v u Q I rx ry ⟨_, _, deref_rep R r1 h.1, deref_rep R r2 h.2, okD_shaped h.1, okD_shaped h.2, by
        rw [eqv_data _ _ _ h.1 h.2]; exact P ρ _ H (Step.refl _ _) R (.bl _)⟩
    · exact P.elim
  quiet := fun x y S c fs S' z => by unfold eqW at z; split at z <;> cases z
theorem ow_ne (hu : X.A.units + 65 < cLine) : OpW X cm (compareOp .NotEq) neW where
  run := fun pins s σ H x y v u Q I rx ry ⟨ρ, S, w1, w2, R, r1, r2, P⟩ => by
    unfold neW at P
    split at P
    · rename_i h
      exact op_neD (by omega) pins s σ H x y v u Q I rx ry ⟨_, _, deref_rep R r1 h.1, deref_rep R r2 h.2, okD_shaped h.1, okD_shaped h.2, by
        rw [eqv_data _ _ _ h.1 h.2]; exact P ρ _ H (Step.refl _ _) R (.bl _)⟩
    · exact P.elim
  quiet := fun x y S c fs S' z => by unfold neW at z; split at z <;> cases z
theorem ow_isN : OpW X cm (compareOp .Is) (fun x y S => match y with | .non => isNW x S | _ => .bad) where
  run := fun pins s σ H x y v u Q I rx ry ⟨ρ, S, w1, w2, R, r1, r2, P⟩ => by
    cases r2 with
    | non =>
      refine op_isN pins s σ H x _ v u Q I rx ry ⟨rfl, ?_⟩
      have e : decide (x = V.non) = w1.isNon := by cases r1 <;> simp [W.isNon]
      rw [e]
      exact P ρ _ H (Step.refl _ _) R (.bl _)
    | _ => exact P.elim
  quiet := fun x y S c fs S' z => by cases y <;> first | cases z | skip
theorem ow_notN : OpW X cm (compareOp .IsNot) (fun x y S => match y with | .non => notNW x S | _ => .bad) where
  run := fun pins s σ H x y v u Q I rx ry ⟨ρ, S, w1, w2, R, r1, r2, P⟩ => by
    cases r2 with
    | non =>
      refine op_notN pins s σ H x _ v u Q I rx ry ⟨rfl, ?_⟩
      have e : decide (x = V.non) = w1.isNon := by cases r1 <;> simp [W.isNon]
      rw [e]
      exact P ρ _ H (Step.refl _ _) R (.bl _)
    | _ => exact P.elim
  quiet := fun x y S c fs S' z => by cases y <;> first | cases z | skip

/-! ### sums -/
theorem inv_lstR {pins : List (Addr × Obj)} {σ : St} {H : Hp} {s : Shared} {l : Addr} {xs : List V} (I : Inv X pins σ H s) (h : Rd H l (.lst xs)) :
    xs.length ≤ sizeLine ∧ ∃ (its : List Value) (n : Nat), Vals xs its ∧ xs.length = its.length ∧ s.heap.get? l = some { cls := .type "list", data := .seq its.toArray n } := by
  obtain ⟨z, its, n, r, e⟩ := h.ok I.hok
  exact ⟨z, its, n, r, r.length, e⟩
/-- list + list, whichever they are -/
def rCatR : R2 := fun x y H Q => ∃ l b xs zs, x = .ref l ∧ y = .ref b ∧ Rd H l (.lst xs) ∧ Rd H b (.lst zs) ∧ xs.length + zs.length ≤ sizeLine ∧ ∀ p, H p = none → Q (.ref p) (upd H p (.lst (xs ++ zs)))
theorem op_catR : OpR X (binaryOp .Add) rCatR := by
  intro pins s σ H x y v u Q I rx ry h
  obtain ⟨l, b, xs, zs, rfl, rfl, hH, hB, hz, q⟩ := h
  cases rx
  cases ry
  obtain ⟨z, its, n, r, hl, e⟩ := inv_lstR I hH
  obtain ⟨z2, its2, n2, r2, hl2, e2⟩ := inv_lstR I hB
  refine PySem.P.add_list e e2 ?_ (by rw [List.size_toArray, List.size_toArray]; omega)
  have ea : its.toArray ++ its2.toArray = (its ++ its2).toArray := by simp
  rw [ea]
  exact ⟨.ref _, _, I.lnew (t' := s.toks) (r.append r2) (by rw [List.length_append]; omega), rfl, q _ I.fresh⟩
theorem add_list_quiet (x y : W) (S : Store) (r : W → W → Store → Res W) : True := trivial
theorem newL_quiet (xs : List W) (S : Store) : Quiet (newL xs S) := fun c fs S' z => by unfold newL at z; split at z <;> cases z
theorem newT_quiet (xs : List W) (S : Store) : Quiet (newT xs S) := fun c fs S' z => by unfold newT at z; split at z <;> cases z
theorem newLS_quiet (xs : List W) (S : Store) : Quiet (newLS xs S) := fun c fs S' z => by unfold newLS at z; split at z <;> cases z
/-- what addW does, by cases -/
inductive AddC : W → W → Store → Res W → Prop
  | int (i j S) : AddC (.int i) (.int j) S (.ok (.int (i + j)) S)
  | str (a b S) : a.length + b.length ≤ LIM → AddC (.str a) (.str b) S (.ok (.str (a ++ b)) S)
  | tup (a b S) : AddC (.tup a) (.tup b) S (newT (a ++ b) S)
  | lst (x y S xs ys) : seqL x S = some xs → seqL y S = some ys → AddC x y S (newL (xs ++ ys) S)
  | bad (x y S) : AddC x y S .bad
theorem addW_cases (x y : W) (S : Store) : AddC x y S (addW x y S) := by
  unfold addW
  split
  · exact .int ..
  · split
    · exact .str _ _ _ (by assumption)
    · exact .bad ..
  · exact .tup ..
  · split
    · exact .lst _ _ _ _ _ (by assumption) (by assumption)
    · exact .bad ..
theorem ow_add : OpW X cm (binaryOp .Add) addW where
  run := fun pins s σ H x y v u Q I rx ry ⟨ρ, S, w1, w2, R, r1, r2, P⟩ => by
    have c := addW_cases w1 w2 S
    revert P c
    generalize addW w1 w2 S = res
    intro P c
    cases c with
    | int i j =>
      cases r1; cases r2
      exact op_add pins s σ H _ _ v u Q I rx ry ⟨i, j, rfl, rfl, P ρ _ H (Step.refl _ _) R (.int _)⟩
    | str a b _ h =>
      cases r1; cases r2
      exact op_add_str pins s σ H _ _ v u Q I rx ry ⟨a, b, rfl, rfl, lim_line h, P ρ _ H (Step.refl _ _) R (.str _)⟩
    | tup a b =>
      cases r1 with
      | tup h1 q1 => cases r2 with
        | tup h2 q2 =>
          unfold newT at P
          split at P
          · rename_i hl
            refine op_catA pins s σ H _ _ v u Q I rx ry ⟨_, _, _, _, rfl, rfl, h1, h2, ?_, fun e => ?_, fun e1 e2 => ?_, fun e1 e2 p hp => ?_⟩
            · rw [q1.length, q2.length, ← List.length_append]; exact lim_line hl
            · subst e; cases q1; exact P ρ _ H (Step.refl _ _) R (.tup h2 q2)
            · subst e2; cases q2; rw [List.append_nil] at P; exact P ρ _ H (Step.refl _ _) R (.tup h1 q1)
            · exact tu_new hp R (q1.append q2) P
          · exact P.elim
    | lst _ _ _ xs ys e1 e2 =>
      obtain ⟨a, vs, rfl, h1, q1⟩ := seqL_rep R r1 e1
      obtain ⟨b, us, rfl, h2, q2⟩ := seqL_rep R r2 e2
      unfold newL at P
      split at P
      · rename_i hl
        refine op_fz op_catR pins s σ H _ _ v u Q I rx ry ⟨a, b, vs, us, rfl, rfl, h1, h2, ?_, fun p hp => fz_new hp R (q1.append q2) P⟩
        rw [q1.length, q2.length, ← List.length_append]; exact lim_line hl
      · exact P.elim
    | bad => exact P.elim
  quiet := fun x y S => by
    have c := addW_cases x y S
    revert c
    generalize addW x y S = res
    intro c
    cases c with
    | int => intro _ _ _ z; cases z
    | str => intro _ _ _ z; cases z
    | tup => exact newT_quiet _ _
    | lst => exact newL_quiet _ _
    | bad => intro _ _ _ z; cases z
theorem ow_addLS : OpW X cm (binaryOp .Add) addLS where
  run := fun pins s σ H x y v u Q I rx ry ⟨ρ, S, w1, w2, R, r1, r2, P⟩ => by
    unfold addLS at P
    split at P
    · rename_i xs ys e1 e2
      obtain ⟨a, vs, rfl, h1, q1⟩ := seqL_rep R r1 e1
      obtain ⟨b, us, rfl, h2, q2⟩ := seqL_rep R r2 e2
      unfold newLS at P
      split at P
      · rename_i hl
        refine op_catR pins s σ H _ _ v u Q I rx ry ⟨a, b, vs, us, rfl, rfl, h1, h2, ?_, fun p hp => st_new hp R (q1.append q2) P⟩
        rw [q1.length, q2.length, ← List.length_append]; exact lim_line hl
      · exact P.elim
    · exact P.elim
  quiet := fun x y S c fs S' z => by
    unfold addLS at z
    split at z
    · exact newLS_quiet _ _ _ _ _ z
    · cases z

/-! ### in -/
theorem ten (w : W) (H : Hp) : True := trivial
theorem any_data : ∀ (ys : List W) (x : W), x.okD DEEP = true → (∀ y ∈ ys, y.okD DEEP = true) → ((W.dataL ys).any fun z => PyData.eqv z x.data) = ys.any fun z => W.eqv z x
  | [], _, _, _ => rfl
  | y :: ys, x, hx, hy => by
    simp only [W.dataL, List.any_cons]
    rw [eqv_data _ _ _ (hy y List.mem_cons_self) hx, any_data ys x hx fun z hz => hy z (List.mem_cons_of_mem _ hz)]
theorem okD_mono : ∀ (n : Nat) (w : W), w.okD n = true → w.okD (n + 1) = true := by
  intro n
  induction n with
  | zero => intro w h; cases w <;> simp [W.okD] at h ⊢ <;> exact h
  | succ n ih =>
    intro w h
    cases w <;> simp only [W.okD] at h ⊢ <;> first | exact h | skip
    · exact List.all_eq_true.mpr fun x hx => ih x (List.all_eq_true.mp h x hx)
    · exact List.all_eq_true.mpr fun x hx => ih x (List.all_eq_true.mp h x hx)
theorem okD_items {w : W} {ys : List W} (h : w.okD DEEP = true) (e : w = .lst ys ∨ w = .tup ys) : ∀ y ∈ ys, y.okD DEEP = true := by
  intro y hy
  have h' : w.okD (39 + 1) = true := h
  rcases e with e | e <;> subst e <;> simp only [W.okD, List.all_eq_true] at h' <;> exact okD_mono 39 y (h' y hy)
def rInT (K : PySem.W.Frag) (neg : Bool) : R2 := fun x y H Q => ∃ d ds, Dp K H x d ∧ Dp K H y (.tuple ds) ∧ SeqAt.shaped d = true ∧ SeqAt.shaped (.tuple ds) = true ∧ Q (.bl (if neg then !(ds.any fun z => PyData.eqv z d) else ds.any fun z => PyData.eqv z d)) H
theorem room_in {A : Around} {xs : List PyData} {d : PyData} (hd : SeqAt.shaped d = true) (hu : A.units + 65 < cLine) : A.units + 1 + min (PyData.depthAll xs) d.depth < cLine := by
  have h1 := SeqAt.depth_of_shaped hd
  have h2 : min (PyData.depthAll xs) d.depth ≤ d.depth := Nat.min_le_right _ _
  omega
theorem op_inT (hu : X.A.units + 65 < cLine) : OpR X (compareOp .In) (rInT X.K false) := by
  intro pins s σ H x y v u Q I rx ry h
  obtain ⟨d, ds, hd, he, sd, se, q⟩ := h
  obtain ⟨as, r1⟩ := Dp.reads I d x v hd rx
  obtain ⟨bs, r2⟩ := Dp.reads I (.tuple ds) y u he ry
  exact SeqAt.in_tuple_reads r2 r1 (SeqAt.canLay_of_shaped se) (SeqAt.canLay_of_shaped sd) (room_in sd hu) ⟨.bl _, H, I, rfl, q⟩
theorem op_ninT (hu : X.A.units + 65 < cLine) : OpR X (compareOp .NotIn) (rInT X.K true) := by
  intro pins s σ H x y v u Q I rx ry h
  obtain ⟨d, ds, hd, he, sd, se, q⟩ := h
  obtain ⟨as, r1⟩ := Dp.reads I d x v hd rx
  obtain ⟨bs, r2⟩ := Dp.reads I (.tuple ds) y u he ry
  exact SeqAt.notIn_tuple_reads r2 r1 (SeqAt.canLay_of_shaped se) (SeqAt.canLay_of_shaped sd) (room_in sd hu) ⟨.bl _, H, I, rfl, q⟩
inductive InC (S : Store) : W → W → Bool → Prop
  | sign (c : Nat) (z : Str) : InC S (.str ⟨#[c]⟩) (.str z) (decide (c ∈ z.cps.toList))
  | lst (x y : W) (ys : List W) : deref y S = .lst ys → x.okD DEEP = true → (W.lst ys).okD DEEP = true → InC S x y (ys.any fun z => W.eqv z x)
  | tup (x : W) (ys : List W) : x.okD DEEP = true → (W.tup ys).okD DEEP = true → InC S x (.tup ys) (ys.any fun z => W.eqv z x)
theorem inB_cases {x y : W} {S : Store} {b : Bool} (h : inB x y S = some b) : InC S x y b := by
  unfold inB at h
  split at h
  · rename_i a z
    split at h
    · rename_i c hc
      cases h
      have : a = ⟨#[c]⟩ := by
        cases a with
        | mk cps =>
          have e : cps = #[c] := Array.toList_inj.mp hc
          rw [e]
      subst this
      exact .sign c z
    · cases h
  · split at h
    · rename_i ys hy
      split at h
      · rename_i hh; cases h; exact .lst _ _ _ hy hh.1 hh.2
      · cases h
    · rename_i ys hy
      split at h
      · rename_i hh
        cases h
        have : ∀ y : W, deref y S = .tup ys → y = .tup ys := by
          intro y hy
          unfold deref at hy
          split at hy
          · split at hy <;> cases hy
          · cases hy
          · exact hy
        rw [this _ hy]
        exact .tup _ _ hh.1 hh.2
      · cases h
    · cases h
theorem ow_in (hu : X.A.units + 65 < cLine) : OpW X cm (compareOp .In) inW where
  run := fun pins s σ H x y v u Q I rx ry ⟨ρ, S, w1, w2, R, r1, r2, P⟩ => by
    unfold inW at P
    split at P
    · rename_i b hb
      have P' := P ρ _ H (Step.refl _ _) R (.bl _)
      cases inB_cases hb with
      | sign c z =>
        cases r1; cases r2
        exact op_in_sign pins s σ H _ _ v u Q I rx ry ⟨c, z, rfl, rfl, P'⟩
      | lst _ _ ys h1 h2 h3 =>
        have d2 := deref_rep R r2 (n := DEEP) (by rw [h1]; exact h3)
        rw [h1] at d2
        have e := any_data ys w1 h2 (okD_items h3 (.inl rfl))
        exact op_inD hu pins s σ H _ _ v u Q I rx ry ⟨_, _, Rep.dp _ _ _ r1 h2, d2, okD_shaped h2, okD_shaped h3, by rw [e]; exact P'⟩
      | tup _ ys h2 h3 =>
        have e := any_data ys w1 h2 (okD_items h3 (.inr rfl))
        exact op_inT hu pins s σ H _ _ v u Q I rx ry ⟨_, _, Rep.dp _ _ _ r1 h2, Rep.dp _ _ _ r2 h3, okD_shaped h2, okD_shaped h3, by rw [if_neg Bool.false_ne_true, e]; exact P'⟩
    · exact P.elim
  quiet := fun x y S c fs S' z => by unfold inW at z; split at z <;> cases z
theorem ow_nin (hu : X.A.units + 65 < cLine) : OpW X cm (compareOp .NotIn) ninW where
  run := fun pins s σ H x y v u Q I rx ry ⟨ρ, S, w1, w2, R, r1, r2, P⟩ => by
    unfold ninW at P
    split at P
    · rename_i b hb
      have P' := P ρ _ H (Step.refl _ _) R (.bl _)
      cases inB_cases hb with
      | sign c z =>
        cases r1; cases r2
        exact op_notIn_sign pins s σ H _ _ v u Q I rx ry ⟨c, z, rfl, rfl, P'⟩
      | lst _ _ ys h1 h2 h3 =>
        have d2 := deref_rep R r2 (n := DEEP) (by rw [h1]; exact h3)
        rw [h1] at d2
        have e := any_data ys w1 h2 (okD_items h3 (.inl rfl))
        exact op_notInD hu pins s σ H _ _ v u Q I rx ry ⟨_, _, Rep.dp _ _ _ r1 h2, d2, okD_shaped h2, okD_shaped h3, by rw [e]; exact P'⟩
      | tup _ ys h2 h3 =>
        have e := any_data ys w1 h2 (okD_items h3 (.inr rfl))
        exact op_ninT hu pins s σ H _ _ v u Q I rx ry ⟨_, _, Rep.dp _ _ _ r1 h2, Rep.dp _ _ _ r2 h3, okD_shaped h2, okD_shaped h3, by rw [if_pos rfl, e]; exact P'⟩
    · exact P.elim
  quiet := fun x y S c fs S' z => by unfold ninW at z; split at z <;> cases z
end

end HW
namespace HW
open PySem L2

/-! ### places, slices, built-ins -/
section
variable {X : Cx} {cm : CM} {xw : WX} {pos p2 : Pos} {a b e : Expr} {es : List Expr} {ta tb te : Ev} {tr : Av} {lo hi : Option Expr} {tl th : Ov}
theorem ixN_eq : @HW.ixN = @L2.ixN := rfl
theorem atI_eq {α : Type} (xs : List α) (i : Int) : HW.atI xs i = L2.atI xs i := rfl
theorem sIx_eq : ∀ (n d : Nat) (o : Option Int), HW.sIx n d o = HT.sIx n d o
  | _, _, none => rfl
  | _, _, some _ => rfl
theorem atI_rep {K : PySem.W.Frag} {ρ : List Addr} {H : Hp} {vs : List V} {ws : List W} {k : Int} {w : W} (r : RepAll K ρ H vs ws) (e : HW.atI ws k = some w) : ∃ v, L2.atI vs k = some v ∧ Rep K ρ H v w := by
  unfold HW.atI at e
  cases h : HW.ixN ws.length k with
  | none => rw [h] at e; cases e
  | some j =>
    rw [h] at e
    obtain ⟨v, h1, h2⟩ := r.get (i := j) (by simpa using e)
    refine ⟨v, ?_, h2⟩
    unfold L2.atI
    rw [r.length, ← ixN_eq, h]
    exact h1
theorem cutV_rep {K : PySem.W.Frag} {ρ : List Addr} {H : Hp} {vs : List V} {ws : List W} {lo hi : Option Int} (r : RepAll K ρ H vs ws) : RepAll K ρ H (cutV vs lo hi) (cutL ws lo hi) := by
  unfold cutV cutL
  rw [sIx_eq, sIx_eq, r.length]
  exact (r.drop _).take _
structure IxW (X : Cx) (cm : CM) (f : W → W → Store → Res W) : Prop where
  run : IxR X (liftO ⟨X.K, cm⟩ f)
  quiet : ∀ x y S, Quiet (f x y S)
inductive IxC : W → W → Store → Res W → Prop
  | str (z : Str) (k : Int) (S : Store) (c : Nat) : z.length ≤ LIM → HW.atI z.cps.toList k = some c → IxC (.str z) (.int k) S (.ok (.str ⟨#[c]⟩) S)
  | seq (x : W) (k : Int) (S : Store) (xs : List W) (w : W) : seqT x S = some xs → HW.atI xs k = some w → IxC x (.int k) S (.ok w S)
  | bad (x y : W) (S : Store) : IxC x y S .bad
theorem ixW_cases (x y : W) (S : Store) : IxC x y S (ixW x y S) := by
  unfold ixW
  split
  · split
    · split
      · exact .str _ _ _ _ (by assumption) (by assumption)
      · exact .bad ..
    · exact .bad ..
  · split
    · split
      · exact .seq _ _ _ _ _ (by assumption) (by assumption)
      · exact .bad ..
    · exact .bad ..
  · exact .bad ..
theorem iw_seq : IxW X cm ixW where
  run := fun value slice pins s σ H x y v u Q I rx ry ⟨ρ, S, w1, w2, R, r1, r2, P⟩ hs => by
    have c := ixW_cases w1 w2 S
    revert P c
    generalize ixW w1 w2 S = res
    intro P c
    cases c with
    | str z k S c hz hc =>
      cases r1; cases r2
      exact ix_seq value slice pins s σ H _ _ v u Q I rx ry (.inr (.inr ⟨z, k, c, rfl, rfl, lim_line hz, hc, P ρ _ H (Step.refl _ _) R (.str _)⟩)) hs
    | seq x k S xs w h1 h2 =>
      cases r2
      obtain ⟨a, vs, rfl, hq, q⟩ := seqT_rep R r1 h1
      obtain ⟨v', h3, h4⟩ := atI_rep q h2
      have P' := P ρ _ H (Step.refl _ _) R h4
      rcases hq with hq | hq
      · exact ix_seq value slice pins s σ H _ _ v u Q I rx ry (.inl ⟨a, vs, k, v', rfl, rfl, hq, h3, P'⟩) hs
      · exact ix_seq value slice pins s σ H _ _ v u Q I rx ry (.inr (.inl ⟨a, vs, k, v', rfl, rfl, hq, h3, P'⟩)) hs
    | bad => exact P.elim
  quiet := fun x y S => by
    have c := ixW_cases x y S
    revert c
    generalize ixW x y S = res
    intro c
    cases c <;> (intro _ _ _ z; cases z)
theorem ew_ix {f : W → W → Store → Res W} (ho : IxW X cm f) (ha : EW X cm xw a ta) (hb : EW X cm xw b tb) (hs : PlainIx b := by exact fun _ _ => rfl) : EW X cm xw (.Subscript a b pos) (eOp f ta tb) := by
  refine (pe_ix ho.run ha hb hs).wimp fun σ H Q ⟨ρ, env, S, R, P⟩ => ?_
  refine liftE.bind R P fun ρ1 w1 S1 v1 H1 st1 R1 r1 P1 => liftE.bind R1 P1 fun ρ2 w2 S2 v2 H2 st2 R2 r2 P2 => ?_
  exact ⟨ρ2, S2, w1, w2, R2.s, r1.mono st2, r2, P2.op R2 (ho.quiet _ _ _)⟩

/-! slices -/
def OVPost (g : G) (xw : WX) (ρ : List Addr) (env : Env) (σ : St) (H : Hp) (Q : Option Int → Hp → Prop) : Res (Option Int) → Prop
  | .ok o S' => ∀ ρ' H', Step ρ H ρ' H' → Rel g ρ' S' env σ H' → Q o H'
  | .exn c fs S' => ∀ ρ' d H', Step ρ H ρ' H' → Rel g ρ' S' env σ H' → XDict g ρ' H' d fs → xw (.ref (g.cm c)) d σ H'
  | .bad => False
def liftV (g : G) (xw : WX) (te : Ov) : TO := fun σ H Q => ∃ ρ env S, Rel g ρ S env σ H ∧ OVPost g xw ρ env σ H Q (te env S)
abbrev OW (X : Cx) (cm : CM) (xw : WX) (e : Option Expr) (te : Ov) : Prop := PO X e (liftV ⟨X.K, cm⟩ xw te)
theorem po_wimp {e : Option Expr} {t t' : TO} (h : PO X e t) (i : ∀ σ H Q, t' σ H Q → t σ H Q) : PO X e t' := ⟨fun pins s σ H Q I q => h.run pins s σ H Q I (i σ H Q q)⟩
theorem ow_none : OW X cm xw none oNone := po_wimp po_none fun σ H Q ⟨ρ, env, S, R, P⟩ => P ρ H (Step.refl _ _) R
theorem ow_some (h : EW X cm xw e te) : OW X cm xw (some e) (oSome te) := by
  refine po_wimp (po_some h) fun σ H Q ⟨ρ, env, S, R, P⟩ => ?_
  refine ⟨ρ, env, S, R, ?_⟩
  unfold oSome at P
  revert P
  cases te env S with
  | ok w S1 =>
    intro P ρ1 v H1 st R1 r1
    cases w with
    | int i => cases r1; exact ⟨i, rfl, P ρ1 H1 st R1⟩
    | _ => exact P.elim
  | exn c fs S1 => intro P; exact P
  | bad => intro P; exact P
def liftSl (g : G) (f : W → Option Int → Option Int → Store → Res W) : V → Option Int → Option Int → Hp → VK → Prop := fun x lo hi H Q => ∃ ρ S w, RelS g ρ S H ∧ Rep g.K ρ H x w ∧ OPost g ρ H Q (f w lo hi S)
structure SlW (X : Cx) (cm : CM) (f : W → Option Int → Option Int → Store → Res W) : Prop where
  run : SlR X (liftSl ⟨X.K, cm⟩ f)
  quiet : ∀ x lo hi S, Quiet (f x lo hi S)
theorem OVPost.toE {k : Option Int → Store → Res W} {g : G} {ρ : List Addr} {env : Env} {σ : St} {H : Hp} {S : Store} {t : Ov} {Q : VK} {Qm : Option Int → Hp → Prop} (R : Rel g ρ S env σ H) (P : EPost g xw ρ env σ H Q ((t env S).bind k))
    (h : ∀ ρ1 o S1 H1, Step ρ H ρ1 H1 → Rel g ρ1 S1 env σ H1 → EPost g xw ρ1 env σ H1 Q (k o S1) → Qm o H1) : liftV g xw t σ H Qm := by
  refine ⟨ρ, env, S, R, ?_⟩
  cases e : t env S with
  | ok w S1 => rw [e] at P; exact fun ρ1 H1 st R1 => h ρ1 w S1 H1 st R1 (EPost.step st P)
  | exn c fs S1 => rw [e] at P; exact P
  | bad => rw [e] at P; exact P
theorem ew_cut {f : W → Option Int → Option Int → Store → Res W} (ho : SlW X cm f) (he : EW X cm xw e te) (hl : OW X cm xw lo tl) (hu : OW X cm xw hi th) : EW X cm xw (.Subscript e (.Slice lo hi none p2) pos) (eCut f te tl th) := by
  refine (pe_slice ho.run he hl hu).wimp fun σ H Q ⟨ρ, env, S, R, P⟩ => ?_
  refine liftE.bind R P fun ρ1 w1 S1 v1 H1 st1 R1 r1 P1 => OVPost.toE R1 P1 fun ρ2 o2 S2 H2 st2 R2 P2 => OVPost.toE R2 P2 fun ρ3 o3 S3 H3 st3 R3 P3 => ?_
  exact ⟨ρ3, S3, w1, R3.s, (r1.mono st2).mono st3, P3.op R3 (ho.quiet _ _ _ _)⟩
theorem sl_fz {r : V → Option Int → Option Int → Hp → VK → Prop} (h : SlR X r) : SlR X (fun x lo hi H Q => r x lo hi H (Fz Q)) := fun pins s σ H x v vl vu lo hi sl Q I rx hs pl pu q => by
  obtain ⟨T, id, h1, h2, h3⟩ := h pins s σ H x v vl vu lo hi sl _ I rx hs pl pu q
  exact ⟨T, id, h1, h2, thn h3 fun _ _ z => ep_fz z⟩
theorem cutL_length {α : Type} (xs : List α) (lo hi : Option Int) : (cutL xs lo hi).length ≤ xs.length := by
  unfold cutL
  rw [List.length_take, List.length_drop]
  omega
theorem cutL_whole {α : Type} {xs : List α} {lo hi : Option Int} (h : HW.sIx xs.length 0 lo = 0 ∧ HW.sIx xs.length xs.length hi = xs.length) : cutL xs lo hi = xs := by
  unfold cutL
  rw [h.1, h.2]
  simp
end

end HW
namespace HW
open PySem L2
section
variable {X : Cx} {cm : CM} {xw : WX} {pos p2 : Pos} {a b e : Expr} {es : List Expr} {ta tb te : Ev} {tr : Av}
theorem cutS_eq (z : Str) (lo hi : Option Int) : cutS z lo hi = ⟨(cutL z.cps.toList lo hi).toArray⟩ := by
  unfold cutS cutL
  rw [sIx_eq, sIx_eq, Array.length_toList]
  rfl
inductive CutC : W → Option Int → Option Int → Store → Res W → Prop
  | str (z lo hi S) : z.length ≤ LIM → CutC (.str z) lo hi S (.ok (.str ⟨(cutL z.cps.toList lo hi).toArray⟩) S)
  | tup (xs lo hi S) : CutC (.tup xs) lo hi S (.ok (.tup (cutL xs lo hi)) S)
  | lst (x lo hi S xs) : seqR x S = some xs → CutC x lo hi S (.ok (.lst (cutL xs lo hi)) S)
  | bad (x lo hi S) : CutC x lo hi S .bad
theorem cutW_cases (x : W) (lo hi : Option Int) (S : Store) : CutC x lo hi S (cutW x lo hi S) := by
  unfold cutW
  split
  · split
    · exact .str _ _ _ _ (by assumption)
    · exact .bad ..
  · exact .tup ..
  · split
    · exact .lst _ _ _ _ _ (by assumption)
    · exact .bad ..
theorem slw_cut : SlW X cm cutW where
  run := fun pins s σ H x v vl vu lo hi sl Q I rx hs pl pu ⟨ρ, S, w, R, r, P⟩ => by
    have c := cutW_cases w lo hi S
    revert P c
    generalize cutW w lo hi S = res
    intro P c
    cases c with
    | str z _ _ _ hz =>
      cases r
      exact sl_str pins s σ H _ v vl vu lo hi sl Q I rx hs pl pu ⟨z, rfl, lim_line hz, by rw [cutS_eq]; exact P ρ _ H (Step.refl _ _) R (.str _)⟩
    | tup xs =>
      cases r with
      | tup hq q =>
        refine sl_tupA pins s σ H _ v vl vu lo hi sl Q I rx hs pl pu ⟨_, _, rfl, hq, fun hw => ?_, fun _ p hp => ?_⟩
        · rw [← sIx_eq, ← sIx_eq, q.length] at hw
          rw [cutL_whole hw] at P
          exact P ρ _ H (Step.refl _ _) R (.tup hq q)
        · exact tu_new hp R (cutV_rep q) P
    | lst _ _ _ _ xs hx =>
      obtain ⟨a, vs, rfl, hq, q⟩ := seqR_rep R r hx
      exact sl_fz sl_list pins s σ H _ v vl vu lo hi sl Q I rx hs pl pu ⟨a, vs, rfl, hq, fun p hp => fz_new hp R (cutV_rep q) P⟩
    | bad => exact P.elim
  quiet := fun x lo hi S => by
    have c := cutW_cases x lo hi S
    revert c
    generalize cutW x lo hi S = res
    intro c
    cases c <;> (intro _ _ _ z; cases z)
theorem slw_cutLS : SlW X cm cutLS where
  run := fun pins s σ H x v vl vu lo hi sl Q I rx hs pl pu ⟨ρ, S, w, R, r, P⟩ => by
    unfold cutLS at P
    split at P
    · rename_i xs hx
      obtain ⟨a, vs, rfl, hq, q⟩ := seqR_rep R r hx
      exact sl_list pins s σ H _ v vl vu lo hi sl Q I rx hs pl pu ⟨a, vs, rfl, hq, fun p hp => st_new hp R (cutV_rep q) P⟩
    · exact P.elim
  quiet := fun x lo hi S c fs S' z => by unfold cutLS at z; split at z <;> cases z

/-! built-in functions -/
def liftB (g : G) (f : Bv) : List V → Hp → VK → Prop := fun vs H Q => ∃ ρ S ws, RelS g ρ S H ∧ RepAll g.K ρ H vs ws ∧ OPost g ρ H Q (f ws S)
structure CallW (X : Cx) (cm : CM) (F : Value) (f : Bv) : Prop where
  run : CallR X F (liftB ⟨X.K, cm⟩ f)
  quiet : ∀ x S, Quiet (f x S)
theorem ew_callB {x : Str} {p : Pos} {id : String} {f : Bv} (hc : CallW X cm (.builtin id) f) (hg : Gl X x) (hm : X.mg x = none) (hv : bootBuiltins x = some (.builtin id)) (ha : AW X cm xw (e :: es) tr) (hn : x ≠ "__name__" := by decide) (hdb : (x == ("__debug__" : Str)) = false := by decide)
    (he : starEach (e :: es) X.env = (false, eval e X.env) :: starEach es X.env := by rfl) (hpl : (backTo pos (starEach es X.env)).any (·.1) = false := by rfl) : EW X cm xw (.Call (.Name x p) (e :: es) [] pos) (eCall f tr) := by
  refine (pe_callB hc.run hg hm hv ha hn hdb he hpl).wimp fun σ H Q ⟨ρ, env, S, R, P⟩ => ?_
  refine liftA.bind R P fun ρ1 ws S1 vs H1 st R1 r1 P1 => ?_
  exact ⟨ρ1, S1, ws, R1.s, r1, P1.op R1 (hc.quiet _ _)⟩
theorem ew_callTy {x : Str} {p : Pos} {id : String} {f : Bv} (hc : CallW X cm (.type id) f) (hg : Gl X x) (hm : X.mg x = none) (hv : bootBuiltins x = some (.type id)) (ha : AW X cm xw (e :: es) tr) (hn : x ≠ "__name__" := by decide) (hdb : (x == ("__debug__" : Str)) = false := by decide)
    (he : starEach (e :: es) X.env = (false, eval e X.env) :: starEach es X.env := by rfl) (hpl : (backTo pos (starEach es X.env)).any (·.1) = false := by rfl) : EW X cm xw (.Call (.Name x p) (e :: es) [] pos) (eCall f tr) := by
  refine (pe_callTy hc.run hg hm hv ha hn hdb he hpl).wimp fun σ H Q ⟨ρ, env, S, R, P⟩ => ?_
  refine liftA.bind R P fun ρ1 ws S1 vs H1 st R1 r1 P1 => ?_
  exact ⟨ρ1, S1, ws, R1.s, r1, P1.op R1 (hc.quiet _ _)⟩
/-- what a one-place function of a value does -/
inductive One (T : W → Store → Res W → Prop) : List W → Store → Res W → Prop
  | one (x S r) : T x S r → One T [x] S r
  | bad (ws S) : One T ws S .bad
inductive LenC : W → Store → Res W → Prop
  | str (z S) : z.length ≤ LIM → LenC (.str z) S (.ok (.int z.length) S)
  | seq (x S xs) : seqT x S = some xs → LenC x S (.ok (.int xs.length) S)
theorem lenW_cases (ws : List W) (S : Store) : One LenC ws S (lenW ws S) := by
  unfold lenW
  split
  · split
    · exact .one _ _ _ (.str _ _ (by assumption))
    · exact .bad ..
  · split
    · exact .one _ _ _ (.seq _ _ _ (by assumption))
    · exact .bad ..
  · exact .bad ..
theorem repAll1 {K : PySem.W.Frag} {ρ : List Addr} {H : Hp} {vs : List V} {w : W} (r : RepAll K ρ H vs [w]) : ∃ v, vs = [v] ∧ Rep K ρ H v w := by
  cases r with | cons h t => cases t; exact ⟨_, rfl, h⟩
theorem repAll2 {K : PySem.W.Frag} {ρ : List Addr} {H : Hp} {vs : List V} {w w' : W} (r : RepAll K ρ H vs [w, w']) : ∃ v v', vs = [v, v'] ∧ Rep K ρ H v w ∧ Rep K ρ H v' w' := by
  cases r with | cons h t => cases t with | cons h' t => cases t; exact ⟨_, _, rfl, h, h'⟩
theorem cw_len : CallW X cm (.builtin "len") lenW where
  run := fun pins s σ H vs us Q I rv ⟨ρ, S, ws, R, r, P⟩ => by
    have c := lenW_cases ws S
    revert P c
    generalize lenW ws S = res
    intro P c
    cases c with
    | one x _ _ t =>
      obtain ⟨v, rfl, r1⟩ := repAll1 r
      cases t with
      | str z _ hz =>
        cases r1
        exact call_len_str pins s σ H _ us Q I rv ⟨z, rfl, lim_line hz, P ρ _ H (Step.refl _ _) R (.int _)⟩
      | seq _ _ xs hx =>
        obtain ⟨a, vs, rfl, hq, q⟩ := seqT_rep R r1 hx
        exact call_len_seq pins s σ H _ us Q I rv ⟨a, vs, rfl, hq, by rw [q.length]; exact P ρ _ H (Step.refl _ _) R (.int _)⟩
    | bad => exact P.elim
  quiet := fun x S => by
    have c := lenW_cases x S
    revert c
    generalize lenW x S = res
    intro c
    cases c with
    | one _ _ _ t => cases t <;> (intro _ _ _ z; cases z)
    | bad => intro _ _ _ z; cases z
theorem cw_list : CallW X cm (.type "list") listW where
  run := fun pins s σ H vs us Q I rv ⟨ρ, S, ws, R, r, P⟩ => by
    unfold listW at P
    split at P
    · split at P
      · rename_i xs hx
        obtain ⟨v, rfl, r1⟩ := repAll1 r
        obtain ⟨a, vs, rfl, hq, q⟩ := seqT_rep R r1 hx
        exact call_fz call_list_of pins s σ H _ us Q I rv ⟨a, vs, rfl, hq, fun l hl => fz_new hl R q P⟩
      · exact P.elim
    · exact P.elim
  quiet := fun x S c fs S' z => by
    unfold listW at z
    split at z
    · split at z <;> cases z
    · cases z
theorem cw_listS : CallW X cm (.type "list") listWS where
  run := fun pins s σ H vs us Q I rv ⟨ρ, S, ws, R, r, P⟩ => by
    unfold listWS at P
    split at P
    · split at P
      · rename_i xs hx
        obtain ⟨v, rfl, r1⟩ := repAll1 r
        obtain ⟨a, vs, rfl, hq, q⟩ := seqT_rep R r1 hx
        exact call_list_of pins s σ H _ us Q I rv ⟨a, vs, rfl, hq, fun l hl => st_new hl R q P⟩
      · exact P.elim
    · exact P.elim
  quiet := fun x S c fs S' z => by
    unfold listWS at z
    split at z
    · split at z <;> cases z
    · cases z
theorem cw_tuple : CallW X cm (.type "tuple") tupleW where
  run := fun pins s σ H vs us Q I rv ⟨ρ, S, ws, R, r, P⟩ => by
    unfold tupleW at P
    split at P
    · split at P
      · rename_i xs hx
        obtain ⟨v, rfl, r1⟩ := repAll1 r
        obtain ⟨a, vs, rfl, hq, q⟩ := seqT_rep R r1 hx
        rcases hq with hq | hq
        · exact call_tuple_of pins s σ H _ us Q I rv ⟨a, vs, rfl, .inl ⟨hq, fun l hl => tu_new hl R q P⟩⟩
        · exact call_tuple_of pins s σ H _ us Q I rv ⟨a, vs, rfl, .inr ⟨hq, P ρ _ H (Step.refl _ _) R (.tup hq q)⟩⟩
      · exact P.elim
    · exact P.elim
  quiet := fun x S c fs S' z => by
    unfold tupleW at z
    split at z
    · split at z <;> cases z
    · cases z
theorem cw_abs : CallW X cm (.builtin "abs") absW where
  run := fun pins s σ H vs us Q I rv ⟨ρ, S, ws, R, r, P⟩ => by
    unfold absW at P
    split at P
    · obtain ⟨v, rfl, r1⟩ := repAll1 r
      cases r1
      exact call_abs pins s σ H _ us Q I rv ⟨_, rfl, P ρ _ H (Step.refl _ _) R (.int _)⟩
    · exact P.elim
  quiet := fun x S c fs S' z => by unfold absW at z; split at z <;> cases z
theorem cw_int : CallW X cm (.type "int") intW where
  run := fun pins s σ H vs us Q I rv ⟨ρ, S, ws, R, r, P⟩ => by
    unfold intW at P
    split at P
    · obtain ⟨v, rfl, r1⟩ := repAll1 r
      cases r1
      exact call_int1 pins s σ H _ us Q I rv (.inl ⟨_, rfl, P ρ _ H (Step.refl _ _) R (.int _)⟩)
    · obtain ⟨v, rfl, r1⟩ := repAll1 r
      cases r1
      exact call_int1 pins s σ H _ us Q I rv (.inr ⟨_, rfl, P ρ _ H (Step.refl _ _) R (.int _)⟩)
    · exact P.elim
  quiet := fun x S c fs S' z => by unfold intW at z; split at z <;> cases z
theorem cw_str : CallW X cm (.type "str") strW where
  run := fun pins s σ H vs us Q I rv ⟨ρ, S, ws, R, r, P⟩ => by
    unfold strW at P
    split at P
    · split at P
      · obtain ⟨v, rfl, r1⟩ := repAll1 r
        cases r1
        exact call_str_int pins s σ H _ us Q I rv ⟨_, rfl, by assumption, P ρ _ H (Step.refl _ _) R (.str _)⟩
      · exact P.elim
    · exact P.elim
  quiet := fun x S c fs S' z => by
    unfold strW at z
    split at z
    · split at z <;> cases z
    · cases z
theorem intsOf_rep {K : PySem.W.Frag} {ρ : List Addr} {H : Hp} : ∀ {ws : List W} {vs : List V} {ns : List Int}, intsOf ws = some ns → RepAll K ρ H vs ws → vs = ns.map V.int
  | [], _, _, e, r => by cases r; cases e; rfl
  | w :: ws, _, ns, e, r => by
    cases r with
    | cons h t =>
      cases w with
      | int i =>
        simp only [intsOf] at e
        cases q : intsOf ws with
        | none => rw [q] at e; cases e
        | some ms =>
          rw [q] at e; cases e
          cases h
          rw [List.map_cons, intsOf_rep q t]
      | _ => cases e
theorem blsOf_rep {K : PySem.W.Frag} {ρ : List Addr} {H : Hp} : ∀ {ws : List W} {vs : List V} {ns : List Bool}, blsOf ws = some ns → RepAll K ρ H vs ws → vs = ns.map V.bl
  | [], _, _, e, r => by cases r; cases e; rfl
  | w :: ws, _, ns, e, r => by
    cases r with
    | cons h t =>
      cases w with
      | bl i =>
        simp only [blsOf] at e
        cases q : blsOf ws with
        | none => rw [q] at e; cases e
        | some ms =>
          rw [q] at e; cases e
          cases h
          rw [List.map_cons, blsOf_rep q t]
      | _ => cases e
theorem onInts_cases (k : List Int → Option W) (ws : List W) (S : Store) : One (fun x S r => ∃ xs ns w, seqR x S = some xs ∧ intsOf xs = some ns ∧ k ns = some w ∧ r = .ok w S) ws S (onInts k ws S) := by
  unfold onInts
  split
  · split
    · split
      · split
        · exact .one _ _ _ ⟨_, _, _, by assumption, by assumption, by assumption, rfl⟩
        · exact .bad ..
      · exact .bad ..
    · exact .bad ..
  · exact .bad ..
theorem onInts_w {F : Value} {k : List Int → Option W} (h : CallR X F (fun vs H Q => ∃ (a : Addr) (ns : List Int), vs = [V.ref a] ∧ SqL X.K H a (ns.map V.int) ∧ ∃ w, k ns = some w ∧ ∀ v, (∀ ρ, Rep X.K ρ H v w) → Q v H)) : CallW X cm F (onInts k) where
  run := fun pins s σ H vs us Q I rv ⟨ρ, S, ws, R, r, P⟩ => by
    have c := onInts_cases k ws S
    revert P c
    generalize onInts k ws S = res
    intro P c
    cases c with
    | one x _ _ t =>
      obtain ⟨xs, ns, w, h1, h2, h3, rfl⟩ := t
      obtain ⟨v, rfl, r1⟩ := repAll1 r
      obtain ⟨a, vs, rfl, hq, q⟩ := seqR_rep R r1 h1
      have e := intsOf_rep h2 q
      subst e
      exact h pins s σ H _ us Q I rv ⟨a, ns, rfl, hq, w, h3, fun v hv => P ρ v H (Step.refl _ _) R (hv ρ)⟩
    | bad => exact P.elim
  quiet := fun x S => by
    have c := onInts_cases k x S
    revert c
    generalize onInts k x S = res
    intro c
    cases c with
    | one _ _ _ t => obtain ⟨_, _, _, _, _, _, rfl⟩ := t; intro _ _ _ z; cases z
    | bad => intro _ _ _ z; cases z
theorem cw_sum (hc : X.calm = true) : CallW X cm (.builtin "sum") sumW := onInts_w fun pins s σ H vs us Q I rv ⟨a, ns, e, hq, w, hw, q⟩ => by
  cases hw
  exact cr_sum hc pins s σ H vs us Q I rv ⟨a, ns, e, hq, q _ fun ρ => .int _⟩
theorem maxL_spec : ∀ (xs : List Int) (x : Int), xs.foldl (fun m y => if y > m then y else m) x ∈ x :: xs ∧ ∀ y ∈ x :: xs, y ≤ xs.foldl (fun m y => if y > m then y else m) x
  | [], x => ⟨by simp, by simp⟩
  | z :: xs, x => by
    simp only [List.foldl_cons]
    obtain ⟨h1, h2⟩ := maxL_spec xs (if z > x then z else x)
    generalize xs.foldl (fun m y => if y > m then y else m) (if z > x then z else x) = d at *
    refine ⟨?_, fun y hy => ?_⟩
    · rcases List.mem_cons.mp h1 with h | h
      · rw [h]; split <;> simp
      · exact List.mem_cons_of_mem _ (List.mem_cons_of_mem _ h)
    · have h3 := h2 _ List.mem_cons_self
      rcases List.mem_cons.mp hy with h | h
      · subst h; split at h3 <;> omega
      · rcases List.mem_cons.mp h with h | h
        · subst h; split at h3 <;> omega
        · exact h2 y (List.mem_cons_of_mem _ h)
theorem minL_spec : ∀ (xs : List Int) (x : Int), xs.foldl (fun m y => if y < m then y else m) x ∈ x :: xs ∧ ∀ y ∈ x :: xs, xs.foldl (fun m y => if y < m then y else m) x ≤ y
  | [], x => ⟨by simp, by simp⟩
  | z :: xs, x => by
    simp only [List.foldl_cons]
    obtain ⟨h1, h2⟩ := minL_spec xs (if z < x then z else x)
    generalize xs.foldl (fun m y => if y < m then y else m) (if z < x then z else x) = d at *
    refine ⟨?_, fun y hy => ?_⟩
    · rcases List.mem_cons.mp h1 with h | h
      · rw [h]; split <;> simp
      · exact List.mem_cons_of_mem _ (List.mem_cons_of_mem _ h)
    · have h3 := h2 _ List.mem_cons_self
      rcases List.mem_cons.mp hy with h | h
      · subst h; split at h3 <;> omega
      · rcases List.mem_cons.mp h with h | h
        · subst h; split at h3 <;> omega
        · exact h2 y (List.mem_cons_of_mem _ h)
theorem maxL_mem {ns : List Int} (h : ns ≠ []) : maxL ns ∈ ns ∧ ∀ y ∈ ns, y ≤ maxL ns := by
  cases ns with
  | nil => exact absurd rfl h
  | cons x xs => exact maxL_spec xs x
theorem minL_mem {ns : List Int} (h : ns ≠ []) : minL ns ∈ ns ∧ ∀ y ∈ ns, minL ns ≤ y := by
  cases ns with
  | nil => exact absurd rfl h
  | cons x xs => exact minL_spec xs x
theorem cw_maxL (hc : X.calm = true) : CallW X cm (.builtin "max") maxLW := onInts_w fun pins s σ H vs us Q I rv ⟨a, ns, e, hq, w, hw, q⟩ => by
  split at hw
  · cases hw
  · rename_i hn
    cases hw
    obtain ⟨h1, h2⟩ := maxL_mem hn
    refine cr_max hc pins s σ H vs us Q I rv ⟨a, ns, e, hq, List.length_pos_iff.mpr hn, fun m hm hm2 => ?_⟩
    have : m = maxL ns := Int.le_antisymm (h2 m hm) (hm2 _ h1)
    subst this
    exact q _ fun ρ => .int _
theorem cw_minL (hc : X.calm = true) : CallW X cm (.builtin "min") minLW := onInts_w fun pins s σ H vs us Q I rv ⟨a, ns, e, hq, w, hw, q⟩ => by
  split at hw
  · cases hw
  · rename_i hn
    cases hw
    obtain ⟨h1, h2⟩ := minL_mem hn
    refine cr_min hc pins s σ H vs us Q I rv ⟨a, ns, e, hq, List.length_pos_iff.mpr hn, fun m hm hm2 => ?_⟩
    have : m = minL ns := Int.le_antisymm (hm2 _ h1) (h2 m hm)
    subst this
    exact q _ fun ρ => .int _
theorem cw_max2 (hc : X.calm = true) : CallW X cm (.builtin "max") max2W where
  run := fun pins s σ H vs us Q I rv ⟨ρ, S, ws, R, r, P⟩ => by
    unfold max2W at P
    split at P
    · obtain ⟨v, v', rfl, r1, r2⟩ := repAll2 r
      cases r1; cases r2
      exact call_max2 hc pins s σ H _ us Q I rv ⟨_, _, rfl, P ρ _ H (Step.refl _ _) R (.int _)⟩
    · exact P.elim
  quiet := fun x S c fs S' z => by unfold max2W at z; split at z <;> cases z
theorem cw_min2 (hc : X.calm = true) : CallW X cm (.builtin "min") min2W where
  run := fun pins s σ H vs us Q I rv ⟨ρ, S, ws, R, r, P⟩ => by
    unfold min2W at P
    split at P
    · obtain ⟨v, v', rfl, r1, r2⟩ := repAll2 r
      cases r1; cases r2
      exact call_min2 hc pins s σ H _ us Q I rv ⟨_, _, rfl, P ρ _ H (Step.refl _ _) R (.int _)⟩
    · exact P.elim
  quiet := fun x S c fs S' z => by unfold min2W at z; split at z <;> cases z
theorem onBls_cases (k : List Bool → Bool) (ws : List W) (S : Store) : One (fun x S r => ∃ xs ns, seqR x S = some xs ∧ blsOf xs = some ns ∧ r = .ok (.bl (k ns)) S) ws S (onBls k ws S) := by
  unfold onBls
  split
  · split
    · split
      · exact .one _ _ _ ⟨_, _, by assumption, by assumption, rfl⟩
      · exact .bad ..
    · exact .bad ..
  · exact .bad ..
theorem onBls_w {F : Value} {k : List Bool → Bool} (h : CallR X F (fun vs H Q => ∃ (a : Addr) (bs : List Bool), vs = [V.ref a] ∧ SqL X.K H a (bs.map V.bl) ∧ Q (.bl (k bs)) H)) : CallW X cm F (onBls k) where
  run := fun pins s σ H vs us Q I rv ⟨ρ, S, ws, R, r, P⟩ => by
    have c := onBls_cases k ws S
    revert P c
    generalize onBls k ws S = res
    intro P c
    cases c with
    | one x _ _ t =>
      obtain ⟨xs, ns, h1, h2, rfl⟩ := t
      obtain ⟨v, rfl, r1⟩ := repAll1 r
      obtain ⟨a, vs, rfl, hq, q⟩ := seqR_rep R r1 h1
      have e := blsOf_rep h2 q
      subst e
      exact h pins s σ H _ us Q I rv ⟨a, ns, rfl, hq, P ρ _ H (Step.refl _ _) R (.bl _)⟩
    | bad => exact P.elim
  quiet := fun x S => by
    have c := onBls_cases k x S
    revert c
    generalize onBls k x S = res
    intro c
    cases c with
    | one _ _ _ t => obtain ⟨_, _, _, _, rfl⟩ := t; intro _ _ _ z; cases z
    | bad => intro _ _ _ z; cases z
theorem cw_all (hc : X.calm = true) : CallW X cm (.builtin "all") allW := onBls_w (cr_all hc)
theorem cw_any (hc : X.calm = true) : CallW X cm (.builtin "any") anyW := onBls_w (cr_any hc)

/-! ### truths -/
theorem ew_one {op} (h : EW X cm xw a ta) : EW X cm xw (.BoolOp op [a] pos) ta := pe_one h
theorem ew_and {rest : List Expr} (ha : EW X cm xw a ta) (hb : EW X cm xw (.BoolOp .And (b :: rest) pos) tb) : EW X cm xw (.BoolOp .And (a :: b :: rest) pos) (eAnd ta tb) := by
  refine (pe_and ha hb).wimp fun σ H Q ⟨ρ, env, S, R, P⟩ => ?_
  refine liftE.bind R P fun ρ1 w S1 v H1 st R1 r1 P1 => ?_
  cases w with
  | bl c =>
    cases r1
    refine ⟨c, rfl, ?_⟩
    cases c with
    | true => exact ⟨ρ1, env, S1, R1, P1⟩
    | false => exact P1 ρ1 _ H1 (Step.refl _ _) R1 (.bl _)
  | _ => exact P1.elim
theorem ew_or {rest : List Expr} (ha : EW X cm xw a ta) (hb : EW X cm xw (.BoolOp .Or (b :: rest) pos) tb) : EW X cm xw (.BoolOp .Or (a :: b :: rest) pos) (eOr ta tb) := by
  refine (pe_or ha hb).wimp fun σ H Q ⟨ρ, env, S, R, P⟩ => ?_
  refine liftE.bind R P fun ρ1 w S1 v H1 st R1 r1 P1 => ?_
  cases w with
  | bl c =>
    cases r1
    refine ⟨c, rfl, ?_⟩
    cases c with
    | false => exact ⟨ρ1, env, S1, R1, P1⟩
    | true => exact P1 ρ1 _ H1 (Step.refl _ _) R1 (.bl _)
  | _ => exact P1.elim
theorem ew_not (ha : EW X cm xw a ta) : EW X cm xw (.UnaryOp .Not a pos) (eNot ta) := by
  refine (pe_not ha).wimp fun σ H Q ⟨ρ, env, S, R, P⟩ => ?_
  refine liftE.bind R P fun ρ1 w S1 v H1 st R1 r1 P1 => ?_
  cases w with
  | bl c => cases r1; exact ⟨c, rfl, P1 ρ1 _ H1 (Step.refl _ _) R1 (.bl _)⟩
  | _ => exact P1.elim
theorem ew_neg (ha : EW X cm xw a ta) : EW X cm xw (.UnaryOp .USub a pos) (eUn negW ta) := by
  refine (pe_un un_neg ha).wimp fun σ H Q ⟨ρ, env, S, R, P⟩ => ?_
  refine liftE.bind R P fun ρ1 w S1 v H1 st R1 r1 P1 => ?_
  cases w with
  | int c => cases r1; exact ⟨c, rfl, P1 ρ1 _ H1 (Step.refl _ _) R1 (.int _)⟩
  | _ => exact P1.elim
abbrev PWW (X : Cx) (cm : CM) (xw : WX) (e : Expr) (te : Tv) : Prop := PW X e (liftT ⟨X.K, cm⟩ xw te)
theorem pw_wimp {e : Expr} {t t' : TT} (h : PW X e t) (i : ∀ σ H Q, t' σ H Q → t σ H Q) : PW X e t' := ⟨fun wh pins s σ H Q I q => h.run wh pins s σ H Q I (i σ H Q q)⟩
variable {t u : Tv}
theorem tw_val {e : Expr} {te : Ev} (h : EW X cm xw e te) (he : ∀ whole, isTrue e X.env whole = (do let v ← whole; standAt e.pos; holding [v] (truthy v)) := by intro _; rfl) : TW X cm xw e (tVal te) := by
  refine (pt_val h he).wimp fun σ H Q ⟨ρ, env, S, R, P⟩ => ?_
  refine liftE.bindT R P fun ρ1 w S1 v H1 st R1 r1 P1 => ?_
  cases w with
  | bl c => cases r1; exact ⟨c, rfl, P1 ρ1 H1 (Step.refl _ _) R1⟩
  | _ => exact P1.elim
theorem pww_and1 (h : TW X cm xw a t) : PWW X cm xw (.BoolOp .And [a] pos) t := pw_and1 h
theorem pww_or1 (h : TW X cm xw a t) : PWW X cm xw (.BoolOp .Or [a] pos) t := pw_or1 h
theorem pww_and {rest : List Expr} (ha : TW X cm xw a t) (hb : PWW X cm xw (.BoolOp .And (b :: rest) pos) u) : PWW X cm xw (.BoolOp .And (a :: b :: rest) pos) (tAnd t u) := by
  refine pw_wimp (pw_and ha hb) fun σ H Q ⟨ρ, env, S, R, P⟩ => ?_
  refine liftT.bindT R P fun ρ1 c S1 H1 st R1 P1 => ?_
  cases c with
  | true => exact ⟨ρ1, env, S1, R1, P1⟩
  | false => exact P1 ρ1 H1 (Step.refl _ _) R1
theorem pww_or {rest : List Expr} (ha : TW X cm xw a t) (hb : PWW X cm xw (.BoolOp .Or (b :: rest) pos) u) : PWW X cm xw (.BoolOp .Or (a :: b :: rest) pos) (tOr t u) := by
  refine pw_wimp (pw_or ha hb) fun σ H Q ⟨ρ, env, S, R, P⟩ => ?_
  refine liftT.bindT R P fun ρ1 c S1 H1 st R1 P1 => ?_
  cases c with
  | false => exact ⟨ρ1, env, S1, R1, P1⟩
  | true => exact P1 ρ1 H1 (Step.refl _ _) R1
theorem tw_not (ha : TW X cm xw a t) : TW X cm xw (.UnaryOp .Not a pos) (tNot t) := by
  refine (pt_not ha).wimp fun σ H Q ⟨ρ, env, S, R, P⟩ => ?_
  exact liftT.bindT R P fun ρ1 c S1 H1 st R1 P1 => P1 ρ1 H1 (Step.refl _ _) R1
theorem ew_if {c : Expr} (hc : TW X cm xw c t) (ha : EW X cm xw a ta) (hb : EW X cm xw b tb) : EW X cm xw (.IfExp c a b pos) (eIf t ta tb) := by
  refine (pe_ifExp hc ha hb).wimp fun σ H Q ⟨ρ, env, S, R, P⟩ => ?_
  refine liftT.bind R P fun ρ1 c S1 H1 st R1 P1 => ?_
  cases c with
  | true => exact ⟨ρ1, env, S1, R1, P1⟩
  | false => exact ⟨ρ1, env, S1, R1, P1⟩
end

end HW
namespace HW
open PySem L2
section
variable {X : Cx} {cm : CM} {xw : WX} {pos p2 : Pos} {a b e : Expr} {es : List Expr} {ta tb te : Ev} {tr : Av} {t u : Tv} {s s2 : Sv} {st : Stmt} {rest body : List Stmt} {i : Nat} {x : Str}
/-! ### statements -/
theorem sws_nil : SWs X cm xw [] sSkip := pss_nil.wimp fun D σ H ⟨ρ, env, S, R, P⟩ => P ρ σ H (Step.refl _ _) R
theorem SPost.seq {g : G} {ρ : List Addr} {env : Env} {S : Store} {H : Hp} {D : Ends} {k : Sv} {r : SRes} (P : SPost g xw ρ H D (match r with | .nx e S1 => k e S1 | r => r)) :
    SPost g xw ρ H { D with nx := liftS g xw k D } r := by
  cases r with
  | nx e S1 => exact fun ρ1 σ1 H1 st R1 => ⟨ρ1, e, S1, R1, SPost.step st P⟩
  | rt w S1 => exact P
  | bk e S1 => exact P
  | ct e S1 => exact P
  | exn c fs e S1 => exact P
  | bad => exact P
theorem sws_cons (h1 : SW X cm xw st s) (h2 : SWs X cm xw rest s2) : SWs X cm xw (st :: rest) (sSeq s s2) := by
  refine (pss_cons h1 h2).wimp fun D σ H ⟨ρ, env, S, R, P⟩ => ?_
  exact ⟨ρ, env, S, R, SPost.seq (env := env) (S := S) P⟩
theorem sws_one (h1 : SW X cm xw st s) : SWs X cm xw [st] s := pss_one h1
theorem sw_pass : SW X cm xw (.Pass pos) sSkip := ps_pass.wimp fun D σ H ⟨ρ, env, S, R, P⟩ => P ρ σ H (Step.refl _ _) R
theorem sw_break : SW X cm xw (.Break pos) sBreak := ps_break.wimp fun D σ H ⟨ρ, env, S, R, P⟩ => P ρ σ H (Step.refl _ _) R
theorem sw_cont : SW X cm xw (.Continue pos) sCont := ps_continue.wimp fun D σ H ⟨ρ, env, S, R, P⟩ => P ρ σ H (Step.refl _ _) R
theorem sw_expr (he : EW X cm xw e te) (hs : swapsWith e none pos.line X.env = pure false := by rfl) : SW X cm xw (.Expr e pos) (sExpr te) := by
  refine (ps_expr he hs).wimp fun D σ H ⟨ρ, env, S, R, P⟩ => ?_
  exact liftE.toS R P fun ρ1 w S1 v H1 st R1 r1 P1 => P1 ρ1 σ H1 (Step.refl _ _) R1
theorem sw_ret (he : EW X cm xw e te) : SW X cm xw (.Return (some e) pos) (sRet te) := by
  refine (ps_ret he).wimp fun D σ H ⟨ρ, env, S, R, P⟩ => ?_
  exact liftE.toS R P fun ρ1 w S1 v H1 st R1 r1 P1 => P1 ρ1 v H1 (Step.refl _ _) R1.s r1
theorem sw_retN : SW X cm xw (.Return none pos) sRetN := ps_retN.wimp fun D σ H ⟨ρ, env, S, R, P⟩ => P ρ _ H (Step.refl _ _) R.s .non
theorem sw_if {c : Expr} {la lb : List Stmt} (hc : TW X cm xw c t) (ha : SWs X cm xw la s) (hb : SWs X cm xw lb s2) : SW X cm xw (.If c la lb pos) (sIf t s s2) := by
  refine (ps_if hc ha hb).wimp fun D σ H ⟨ρ, env, S, R, P⟩ => ?_
  refine liftT.toS R P fun ρ1 c S1 H1 st R1 P1 => ?_
  cases c with
  | true => exact ⟨ρ1, env, S1, R1, P1⟩
  | false => exact ⟨ρ1, env, S1, R1, P1⟩

/-! targets: what they store goes to the slots vs alone -/
theorem RelE.set {g : G} {ρ : List Addr} {env : Env} {σ : St} {H : Hp} (R : RelE g ρ env σ H) (i : Nat) {v : V} {w : W} (r : Rep g.K ρ H v w) : RelE g ρ (env.set i (some w)) (σ.set i (some v)) H where
  len := by rw [List.length_set, List.length_set]; exact R.len
  get := fun j u e => by
    by_cases hj : i = j
    · subst hj
      have hl : i < env.length := by
        have h := (List.getElem?_eq_some_iff.mp e).1
        rwa [List.length_set] at h
      rw [List.getElem?_set_self hl] at e
      cases e
      exact ⟨v, List.getElem?_set_self (by rw [← R.len]; exact hl), r⟩
    · rw [List.getElem?_set_ne hj] at e
      obtain ⟨v', h1, h2⟩ := R.get j u e
      exact ⟨v', by rw [List.getElem?_set_ne hj]; exact h1, h2⟩
theorem RelE.unset {g : G} {ρ : List Addr} {env : Env} {σ : St} {H : Hp} (R : RelE g ρ env σ H) (i : Nat) (z : Option V) : RelE g ρ (env.set i none) (σ.set i z) H where
  len := by rw [List.length_set, List.length_set]; exact R.len
  get := fun j u e => by
    by_cases hj : i = j
    · subst hj
      have hl : i < env.length := by
        have h := (List.getElem?_eq_some_iff.mp e).1
        rwa [List.length_set] at h
      rw [List.getElem?_set_self hl] at e
      cases e
    · rw [List.getElem?_set_ne hj] at e
      obtain ⟨v', h1, h2⟩ := R.get j u e
      exact ⟨v', by rw [List.getElem?_set_ne hj]; exact h1, h2⟩
theorem wipe_set {σ : St} {z : Option V} : ∀ {vs : List Nat} {i : Nat}, i ∈ vs → wipe (σ.set i z) vs = wipe σ vs
  | [], _, h => by cases h
  | v :: vs, i, h => by
    show (wipe (σ.set i z) vs).set v none = (wipe σ vs).set v none
    by_cases hm : i ∈ vs
    · rw [wipe_set hm]
    · have hi : i = v := by
        rcases List.mem_cons.mp h with h | h
        · exact h
        · exact absurd h hm
      subst hi
      have go : ∀ vs : List Nat, i ∉ vs → wipe (σ.set i z) vs = (wipe σ vs).set i z := by
        intro vs
        induction vs with
        | nil => intro _; rfl
        | cons u us ih =>
          intro hn
          show (wipe (σ.set i z) us).set u none = ((wipe σ us).set u none).set i z
          rw [ih (fun q => hn (List.mem_cons_of_mem _ q)), List.set_comm _ _ (fun q => hn (by rw [q]; exact List.mem_cons_self))]
      rw [go vs hm, List.set_set]
def liftG (g : G) (vs : List Nat) (tg : Gv) : TG := fun v σ H Q => ∃ ρ env S w env', Rel g ρ S env σ H ∧ Rep g.K ρ H v w ∧ tg w env = some env' ∧ ∀ σ', Rel g ρ S env' σ' H → wipe σ' vs = wipe σ vs → Q σ' H
abbrev GW (X : Cx) (cm : CM) (vs : List Nat) (e : Expr) (tg : Gv) : Prop := PG X e (liftG ⟨X.K, cm⟩ vs tg)
def liftGs (g : G) (vs : List Nat) (tgs : List Gv) : TGs := fun xs σ H Q => ∃ ρ env S ws env', Rel g ρ S env σ H ∧ RepAll g.K ρ H xs ws ∧ gList tgs ws env = some env' ∧ ∀ σ', Rel g ρ S env' σ' H → wipe σ' vs = wipe σ vs → Q σ' H
abbrev GWs (X : Cx) (cm : CM) (vs : List Nat) (es : List Expr) (tgs : List Gv) : Prop := PGs X es (liftGs ⟨X.K, cm⟩ vs tgs)
theorem pg_wimp {e : Expr} {t t' : TG} (h : PG X e t) (i : ∀ v σ H Q, t' v σ H Q → t v σ H Q) : PG X e t' := ⟨fun pins s σ H v u Q I r q => h.run pins s σ H v u Q I r (i v σ H Q q)⟩
theorem pgs_wimp {es : List Expr} {t t' : TGs} (h : PGs X es t) (i : ∀ v σ H Q, t' v σ H Q → t v σ H Q) : PGs X es t' := ⟨fun pins s σ H v u Q I r q => h.run pins s σ H v u Q I r (i v σ H Q q)⟩
variable {vs : List Nat} {tg : Gv} {tgs : List Gv}
theorem gw_name (hN : X.N.Nodup) (hi : X.N[i]? = some x := by rfl) (hx : Loc X.env.scope x := by first | exact Or.inl rfl | exact Or.inr rfl) (hv : i ∈ vs := by decide)
    (hf : X.fn x = true ∨ X.env.scope.names.lookup x = some .local := by first | exact .inl rfl | exact .inr rfl | assumption) : GW X cm vs (.Name x pos) (HW.gName i) :=
  pg_wimp (pg_name hN hi hx hf) fun v σ H Q ⟨ρ, env, S, w, env', R, r, e, P⟩ => by
    cases e
    exact P _ ⟨R.s, R.e.set i r⟩ (wipe_set hv)
theorem gws_nil : GWs X cm vs [] [] := pgs_wimp pgs_nil fun xs σ H Q ⟨ρ, env, S, ws, env', R, r, e, P⟩ => by
  cases ws with
  | nil => cases r; cases e; exact ⟨rfl, P σ R rfl⟩
  | cons w ws => cases e
theorem gws_cons (h1 : GW X cm vs e tg) (h2 : GWs X cm vs es tgs)
    (hs : (assignEach (e :: es) X.env).map (·.2) = assign e X.env :: (assignEach es X.env).map (·.2) := by rfl) : GWs X cm vs (e :: es) (tg :: tgs) := by
  refine pgs_wimp (pgs_cons h1 h2 hs) fun xs σ H Q ⟨ρ, env, S, ws, env', R, r, q, P⟩ => ?_
  cases ws with
  | nil => cases q
  | cons w ws =>
    cases r with
    | cons r1 r2 =>
      have q' : (tg w env).bind (fun e => gList tgs ws e) = some env' := q
      cases h : tg w env with
      | none => rw [h] at q'; cases q'
      | some e1 =>
        rw [h] at q'
        exact ⟨_, _, rfl, ρ, env, S, w, e1, R, r1, h, fun σ1 R1 w1 => ⟨ρ, e1, S, ws, env', R1, r2, q', fun σ2 R2 w2 => P σ2 R2 (w2.trans w1)⟩⟩
theorem gw_tup {k : Nat} {n : Nat} (hc : X.calm = true) (h : GWs X cm vs es tgs) (hl : tgs.length = n := by rfl)
    (hn : (assignEach es X.env).length = n := by rfl) (hst : (assignEach es X.env).findIdx? (·.1) = none := by rfl) : GW X cm vs (.Tuple es k pos) (HW.gTup tgs) := by
  refine pg_wimp (pg_tup hc h hn hst) fun v σ H Q ⟨ρ, env, S, w, env', R, r, q, P⟩ => ?_
  unfold HW.gTup at q
  cases r with
  | tup hq rr =>
    refine ⟨_, _, rfl, hq, ?_, ρ, env, S, _, env', R, rr, q, P⟩
    have len : ∀ (gs : List Gv) (ws : List W) (e e' : Env), gList gs ws e = some e' → ws.length = gs.length := by
      intro gs
      induction gs with
      | nil => intro ws e e' h; cases ws with
        | nil => rfl
        | cons _ _ => cases h
      | cons g gs ih => intro ws e e' h; cases ws with
        | nil => cases h
        | cons w ws =>
          have h' : (g w e).bind (fun e => gList gs ws e) = some e' := h
          cases hg : g w e with
          | none => rw [hg] at h'; cases h'
          | some e1 => rw [hg] at h'; rw [List.length_cons, List.length_cons, ih ws e1 e' h']
    rw [rr.length, len _ _ _ _ q, hl]
  | _ => cases q
/-- name = e -/
theorem sw_set {p' : Pos} (hN : X.N.Nodup) (he : EW X cm xw e te) (hi : X.N[i]? = some x := by rfl) (hx : Loc X.env.scope x := by first | exact Or.inl rfl | exact Or.inr rfl) (hs : swapsWith e (some (.Name x p')) pos.line X.env = pure false := by rfl)
    (hf : X.fn x = true ∨ X.env.scope.names.lookup x = some .local := by first | exact .inl rfl | exact .inr rfl | assumption) : SW X cm xw (.Assign [.Name x p'] e pos) (sAsg te (HW.gName i)) := by
  refine (ps_set hN hi hx he hs hf).wimp fun D σ H ⟨ρ, env, S, R, P⟩ => ?_
  exact liftE.toS R P fun ρ1 w S1 v H1 st R1 r1 P1 => P1 ρ1 _ H1 (Step.refl _ _) ⟨R1.s, R1.e.set i r1⟩
theorem sw_asg {tgt : Expr} (he : EW X cm xw e te) (hg : GW X cm vs tgt tg) (hs : swapsWithSole [tgt] e pos.line X.env = pure false := by rfl) (hw : swappedStores [tgt] e X.env = pure none := by rfl)
    (h1 : (assignEach [tgt] X.env).map (·.2) = [assign tgt X.env] := by rfl) : SW X cm xw (.Assign [tgt] e pos) (sAsg te tg) := by
  refine (ps_asg he hg hs hw h1).wimp fun D σ H ⟨ρ, env, S, R, P⟩ => ?_
  refine liftE.toS R P fun ρ1 w S1 v H1 st R1 r1 P1 => ?_
  split at P1
  · rename_i e1 h
    exact ⟨ρ1, env, S1, w, e1, R1, r1, h, fun σ' R' _ => P1 ρ1 σ' H1 (Step.refl _ _) R'⟩
  · exact P1.elim
/-- a, b = x, y: both sides written, two plain names -/
def sPar (i j : Nat) (ta : Av) : Sv := fun env S => (ta env S).toS env fun ws S1 => match ws with
  | [v, w] => .nx ((env.set i (some v)).set j (some w)) S1
  | _ => .bad
theorem liftA.toS {te : Av} {g : G} {ρ : List Addr} {env : Env} {S : Store} {σ : St} {H : Hp} {k : List W → Store → SRes} {D : Ends} {Qm : List V → Hp → Prop} (R : Rel g ρ S env σ H) (P : SPost g xw ρ H D ((te env S).toS env k))
    (h : ∀ ρ1 ws S1 vs H1, Step ρ H ρ1 H1 → Rel g ρ1 S1 env σ H1 → RepAll g.K ρ1 H1 vs ws → SPost g xw ρ1 H1 D (k ws S1) → Qm vs H1) : liftA g xw te σ H Qm := by
  refine ⟨ρ, env, S, R, ?_⟩
  cases e : te env S with
  | ok w S1 =>
    rw [e] at P
    exact fun ρ1 v H1 st R1 r1 => h ρ1 w S1 v H1 st R1 r1 (SPost.step st P)
  | exn c fs S1 =>
    rw [e] at P
    exact fun ρ1 d H1 st R1 x1 => P ρ1 σ d H1 st R1 x1
  | bad => rw [e] at P; exact P
theorem sw_par {j : Nat} {y : Str} {px py pt : Pos} {kt k2 pt2} (hc : X.calm = true) (hN : X.N.Nodup) (hi : X.N[i]? = some x) (hj : X.N[j]? = some y) (hij : i ≠ j)
    (hx : X.env.scope.names.lookup x = some .local) (hy : X.env.scope.names.lookup y = some .local) (ha : AW X cm xw [a, b] tr)
    (hw : swappedStores [.Tuple [.Name x px, .Name y py] kt pt] (.Tuple [a, b] k2 pt2) X.env = pure (some [x, y]))
    (hs : swapsWithSole [.Tuple [.Name x px, .Name y py] kt pt] (.Tuple [a, b] k2 pt2) pos.line X.env = pure false := by rfl) :
    SW X cm xw (.Assign [.Tuple [.Name x px, .Name y py] kt pt] (.Tuple [a, b] k2 pt2) pos) (sPar i j tr) := by
  refine (ps_par hc hN hi hj hij hx hy ha hw hs).wimp fun D σ H ⟨ρ, env, S, R, P⟩ => ?_
  refine liftA.toS R P fun ρ1 ws S1 vs H1 st R1 r1 P1 => ?_
  split at P1
  · obtain ⟨v, v', rfl, h1, h2⟩ := repAll2 r1
    exact ⟨v, v', rfl, P1 ρ1 _ H1 (Step.refl _ _) ⟨R1.s, (R1.e.set i h1).set j h2⟩⟩
  · exact P1.elim

/-! ### loops -/
/-- what an iterator gives: the items ws, while the guard holds -/
def WalkW (g : G) (J : It) (ws : List W) (gd : Gd) (ρ : List Addr) (H : Hp) : Prop :=
  ∀ ρ2 H2 S2, Step ρ H ρ2 H2 → RelS g ρ2 S2 H2 → gdOk gd S2 → ∀ i : Nat,
    (∀ w, ws[i]? = some w → J.go i H2 ∧ ∀ x H3, J.yld i H2 x H3 → Step ρ2 H2 ρ2 H3 ∧ RelS g ρ2 S2 H3 ∧ Rep g.K ρ2 H3 x w) ∧ (ws.length = i → J.stop i H2)
def IPost (g : G) (xw : WX) (ρ : List Addr) (env : Env) (σ : St) (H : Hp) (R : It → Hp → Prop) : Res (List W × Gd) → Prop
  | .ok p S' => ∀ ρ' J H', Step ρ H ρ' H' → Rel g ρ' S' env σ H' → WalkW g J p.1 p.2 ρ' H' → R J H'
  | .exn c fs S' => ∀ ρ' d H', Step ρ H ρ' H' → Rel g ρ' S' env σ H' → XDict g ρ' H' d fs → xw (.ref (g.cm c)) d σ H'
  | .bad => False
def liftI (g : G) (xw : WX) (iv : Iv) : TI := fun σ H R => ∃ ρ env S, Rel g ρ S env σ H ∧ IPost g xw ρ env σ H R (iv env S)
abbrev IW (X : Cx) (cm : CM) (xw : WX) (tgt e : Expr) (iv : Iv) : Prop := PI X tgt e (liftI ⟨X.K, cm⟩ xw iv)
theorem pi_wimp {tg e : Expr} {t t' : TI} (h : PI X tg e t) (i : ∀ σ H Q, t' σ H Q → t σ H Q) : PI X tg e t' := ⟨fun pins s σ H R I q => h.run pins s σ H R I (i σ H R q)⟩
theorem IPost.step {g : G} {ρ ρ' : List Addr} {env : Env} {σ : St} {H H' : Hp} {R : It → Hp → Prop} {r : Res (List W × Gd)} (st : Step ρ H ρ' H') (h : IPost g xw ρ env σ H R r) : IPost g xw ρ' env σ H' R r := by
  cases r with
  | ok w S => exact fun ρ2 v H2 s2 => h ρ2 v H2 (st.trans s2)
  | exn c fs S => exact fun ρ2 v H2 s2 => h ρ2 v H2 (st.trans s2)
  | bad => exact h
variable {iv : Iv}
theorem sw_for {tgt iter : Expr} (hp : PassesOwn (model X.prog X.w) X.A X.env X.xe) (hc : X.calm = true) (hi : IW X cm xw tgt iter iv) (hg : GW X cm vs tgt tg) (hb : SWs X cm xw body s)
    (hs : ∀ x, foldedSetIterable iter X.env x = pure x := by intro _; rfl) : SW X cm xw (.For tgt iter body [] pos) (sFor iv tg s) := by
  refine (ps_for hp hc hi hg hb hs).wimp fun D σ H ⟨ρ, env, S, R, P⟩ => ?_
  refine ⟨ρ, env, S, R, ?_⟩
  unfold sFor at P
  revert P
  cases iv env S with
  | exn c fs S1 => intro P; exact fun ρ1 d H1 st R1 x1 => P ρ1 σ d H1 st R1 x1
  | bad => intro P; exact P
  | ok p S1 =>
    obtain ⟨ws, gd⟩ := p
    intro P ρ1 J H1 st1 R1 wk
    have P1 : SPost ⟨X.K, cm⟩ xw ρ1 H1 D (forL gd tg s ws env S1) := SPost.step st1 P
    refine ⟨fun i m σ2 H2 => m + i = ws.length ∧ ∃ ρ2 env2 S2, Step ρ1 H1 ρ2 H2 ∧ Rel ⟨X.K, cm⟩ ρ2 S2 env2 σ2 H2 ∧ SPost ⟨X.K, cm⟩ xw ρ2 H2 D (forL gd tg s (ws.drop i) env2 S2), ⟨ws.length, rfl, ρ1, env, S1, Step.refl _ _, R1, P1⟩, ?_⟩
    rintro i m σ2 H2 ⟨hm, ρ2, env2, S2, st2, R2, P2⟩
    cases hd : ws.drop i with
    | nil =>
      have hl : ws.length = i := by
        have := congrArg List.length hd
        simp at this
        omega
      rw [hd] at P2
      unfold forL at P2
      split at P2
      · rename_i hgd
        exact .inl ⟨((wk ρ2 H2 S2 st2 R2.s hgd) i).2 hl, P2 ρ2 σ2 H2 (Step.refl _ _) R2⟩
      · exact P2.elim
    | cons w rest =>
      have hw : ws[i]? = some w := by
        have := congrArg (fun l => l[0]?) hd
        simpa using this
      have hr : ws.drop (i + 1) = rest := by
        have := congrArg List.tail hd
        simpa using this
      have hlt : i < ws.length := (List.getElem?_eq_some_iff.mp hw).1
      rw [hd] at P2
      unfold forL at P2
      split at P2
      · rename_i hgd
        obtain ⟨go, yl⟩ := ((wk ρ2 H2 S2 st2 R2.s hgd) i).1 w hw
        refine .inr ⟨go, fun σ' H' => ∃ ρ3 env3 S3, Step ρ1 H1 ρ3 H' ∧ Rel ⟨X.K, cm⟩ ρ3 S3 env3 σ' H' ∧ SPost ⟨X.K, cm⟩ xw ρ3 H' D (forL gd tg s (ws.drop (i + 1)) env3 S3), ?_, ?_⟩
        · rintro σ' H' ⟨ρ3, env3, S3, st3, R3, P3⟩
          exact ⟨m - 1, by omega, by omega, ρ3, env3, S3, st3, R3, P3⟩
        · intro x H3 y
          obtain ⟨st3, R3, r3⟩ := yl x H3 y
          split at P2
          · rename_i e1 hg1
            have Q2 := SPost.step st3 P2
            refine ⟨ρ2, env2, S2, w, e1, ⟨R3, R2.e.mono st3⟩, r3, hg1, fun σ' R' _ => ⟨ρ2, e1, S2, R', ?_⟩⟩
            have st13 := st2.trans st3
            revert Q2
            cases s e1 S2 with
            | nx e2 S4 => intro Q2 ρ4 σ4 H4 st4 R4; exact ⟨ρ4, e2, S4, st13.trans st4, R4, by rw [hr]; exact SPost.step st4 Q2⟩
            | ct e2 S4 => intro Q2 ρ4 σ4 H4 st4 R4; exact ⟨ρ4, e2, S4, st13.trans st4, R4, by rw [hr]; exact SPost.step st4 Q2⟩
            | bk e2 S4 => intro Q2; exact Q2
            | rt w S4 => intro Q2; exact Q2
            | exn c fs e2 S4 => intro Q2; exact Q2
            | bad => intro Q2; exact Q2
          · exact P2.elim
      · exact P2.elim
theorem sw_while {c : Expr} (hp : PassesOwn (model X.prog X.w) X.A X.env X.xe) (hc : TW X cm xw c t) (hb : SWs X cm xw body s) : SW X cm xw (.While c body [] pos) (sWhile t s) := by
  refine (ps_while hp hc hb).wimp fun D σ H ⟨ρ, env, S, R, P⟩ => ?_
  unfold sWhile at P
  split at P
  · rename_i h
    refine ⟨fun m σ2 H2 => ∃ ρ2 env2 S2, Rel ⟨X.K, cm⟩ ρ2 S2 env2 σ2 H2 ∧ SPost ⟨X.K, cm⟩ xw ρ2 H2 D (whileN t s m env2 S2), ⟨h.choose, ρ, env, S, R, P⟩, ?_⟩
    rintro m σ2 H2 ⟨ρ2, env2, S2, R2, P2⟩
    cases m with
    | zero => exact P2.elim
    | succ m =>
      simp only [whileN] at P2
      refine liftT.toS R2 P2 fun ρ3 c S3 H3 st3 R3 P3 => ?_
      cases c with
      | false => exact P3 ρ3 σ2 H3 (Step.refl _ _) R3
      | true =>
        simp only [if_true] at P3 ⊢
        refine ⟨fun σ' H' => ∃ ρ4 env4 S4, Rel ⟨X.K, cm⟩ ρ4 S4 env4 σ' H' ∧ SPost ⟨X.K, cm⟩ xw ρ4 H' D (whileN t s m env4 S4), fun σ' H' q => ⟨m, Nat.lt_succ_self m, q⟩, ρ3, env2, S3, R3, ?_⟩
        revert P3
        cases s env2 S3 with
        | nx e2 S4 => intro Q2 ρ4 σ4 H4 st4 R4; exact ⟨ρ4, e2, S4, R4, SPost.step st4 Q2⟩
        | ct e2 S4 => intro Q2 ρ4 σ4 H4 st4 R4; exact ⟨ρ4, e2, S4, R4, SPost.step st4 Q2⟩
        | bk e2 S4 => intro Q2; exact Q2
        | rt w S4 => intro Q2; exact Q2
        | exn c fs e2 S4 => intro Q2; exact Q2
        | bad => intro Q2; exact Q2
  · exact P.elim
end

end HW
namespace HW
open PySem L2
section
variable {X : Cx} {cm : CM} {xw : WX} {pos p2 : Pos} {a b e elt tgt iter : Expr} {es ifs : List Expr} {ta tb te : Ev} {tr : Av} {t u cond : Tv} {i : Nat} {x : Str} {iv : Iv} {tg : Gv}
/-! ### comprehensions -/
abbrev CW (X : Cx) (cm : CM) (xw : WX) (ifs : List Expr) (t : Tv) : Prop := PTs X ifs (liftT ⟨X.K, cm⟩ xw t)
/-- nothing is let out -/
abbrev xw0 : WX := fun _ _ _ _ => False
theorem cwt_nil : CW X cm xw [] tYes := ⟨fun pins s σ H Q I ⟨ρ, env, S, R, P⟩ => pts_nil.run pins s σ H Q I (P ρ H (Step.refl _ _) R)⟩
theorem cwt_one {c : Expr} (h : TW X cm xw c t) : CW X cm xw [c] t := pts_one h
theorem RelE.wiped {g : G} {ρ : List Addr} {env : Env} {σ : St} {H : Hp} (R : RelE g ρ env σ H) : ∀ vs : List Nat, RelE g ρ (wipeE env vs) (wipe σ vs) H
  | [] => R
  | v :: vs => (R.wiped vs).unset v none
theorem EPost.calm {g : G} {ρ : List Addr} {env : Env} {σ : St} {H : Hp} {r : Res W} {k : W → Store → Res (List W)} {Q : VK} {kk : List W → Store → Res W}
    (P : EPost g xw ρ env σ H Q ((r.calm.bind k).bind kk)) : ∃ w S, r = .ok w S ∧ EPost g xw ρ env σ H Q ((k w S).bind kk) := by
  cases r with
  | ok w S => exact ⟨w, S, rfl, P⟩
  | exn c fs S => exact P.elim
  | bad => exact P.elim
theorem TPost.calm {g : G} {ρ : List Addr} {env : Env} {σ : St} {H : Hp} {r : Res Bool} {k : Bool → Store → Res (List W)} {Q : VK} {kk : List W → Store → Res W}
    (P : EPost g xw ρ env σ H Q ((r.calm.bind k).bind kk)) : ∃ w S, r = .ok w S ∧ EPost g xw ρ env σ H Q ((k w S).bind kk) := by
  cases r with
  | ok w S => exact ⟨w, S, rfl, P⟩
  | exn c fs S => exact P.elim
  | bad => exact P.elim
theorem compL_quiet {gd : Gd} {tg : Gv} {cond : Tv} {te : Ev} {env : Env} : ∀ (ws : List W) (S : Store) (c : Str) (fs : List (Str × W)) (S' : Store), compL gd tg cond te env ws S ≠ .exn c fs S'
  | [], S, c, fs, S', h => by unfold compL at h; split at h <;> cases h
  | w :: ws, S, c, fs, S', h => by
    unfold compL at h
    split at h
    · split at h
      · rename_i e1 _
        cases h1 : cond e1 S with
        | ok b S2 =>
          rw [h1] at h
          simp only [Res.calm, Res.bind_ok] at h
          split at h
          · cases h2 : te e1 S2 with
            | ok v S3 =>
              rw [h2] at h
              simp only [Res.calm, Res.bind_ok] at h
              cases h3 : compL gd tg cond te env ws S3 with
              | ok => rw [h3] at h; cases h
              | exn c' fs' S4 => exact compL_quiet ws S3 _ _ _ h3
              | bad => rw [h3] at h; cases h
            | exn => rw [h2] at h; cases h
            | bad => rw [h2] at h; cases h
          · exact compL_quiet ws S2 _ _ _ h
        | exn => rw [h1] at h; cases h
        | bad => rw [h1] at h; cases h
      · cases h
    · cases h
/-- an open list becomes the store's -/
theorem RelS.adopt {g : G} {ρ : List Addr} {S : Store} {H : Hp} {D : Addr} {u : O} (r : RelS g ρ S H) (hD : D ∉ ρ) (q : RepO g ρ H D u) : RelS g (ρ ++ [D]) (S ++ [u]) H where
  tb := r.tb
  len := by rw [List.length_append, List.length_append, r.len]; rfl
  nd := by
    rw [List.nodup_append]
    refine ⟨r.nd, by simp, fun a ha b hb => ?_⟩
    have : b = D := by simpa using hb
    subst this
    exact fun z => hD (z ▸ ha)
  obj := fun n x e => by
    have m : Mon ρ H (ρ ++ [D]) H := ⟨List.prefix_append _ _, fun _ _ h => h, fun _ _ _ h => h⟩
    by_cases hn : n < S.length
    · rw [List.getElem?_append_left hn] at e
      obtain ⟨a, h1, h2⟩ := r.obj n x e
      exact ⟨a, by rw [List.getElem?_append_left (by rw [r.len]; exact hn)]; exact h1, h2.monM m rfl⟩
    · have hl : n < (S ++ [u]).length := (List.getElem?_eq_some_iff.mp e).1
      have en : n = S.length := by rw [List.length_append] at hl; simp at hl; omega
      subst en
      rw [List.getElem?_append_right (Nat.le_refl _)] at e
      simp at e
      subst e
      exact ⟨D, by rw [List.getElem?_append_right (by rw [r.len]; exact Nat.le_refl _), r.len]; simp, q.monM m rfl⟩
theorem Step.notin {ρ ρ' : List Addr} {H H' : Hp} {D : Addr} {o : HO} (st : Step ρ H ρ' H') (h : H D = some o) (hD : D ∉ ρ) (ho : ∀ ps, o ≠ .tbl ps := by exact fun _ z => nomatch z) : D ∉ ρ' := fun m => by
  rcases st.fresh D m with z | z
  · exact hD z
  · obtain ⟨ps, e⟩ := z o h
    exact ho ps e
/-- how the list is told at its end -/
structure MkL (g : G) (mk : List W → Store → Res W) (F : VK → VK) : Prop where
  small : ∀ ws S, mk ws S ≠ .bad → ws.length ≤ LIM
  fin : ∀ (xw : WX) (ρ1 : List Addr) (env : Env) (σ : St) (H1 : Hp) (Q : VK) (ρ2 : List Addr) (S2 : Store) (H2 : Hp) (D : Addr) (acc : List V) (accw : List W), RelE g ρ1 env σ H1 → Step ρ1 H1 ρ2 H2 → H1 D = none → RelS g ρ2 S2 H2 → D ∉ ρ2 → H2 D = some (.lst acc) →
    RepAll g.K ρ2 H2 acc accw → EPost g xw ρ1 env σ H1 Q (mk accw S2) → F Q (.ref D) H2
theorem mkl_fz {g : G} : MkL g newL Fz where
  small := fun ws S h => by unfold newL at h; split at h <;> first | assumption | exact absurd rfl h
  fin := fun xw ρ1 env σ H1 Q ρ2 S2 H2 D acc accw RE st hD RS nd hd r P => by
    unfold newL at P
    split at P
    · refine ⟨D, acc, rfl, hd, fun o => ?_⟩
      have m : Mon ρ2 H2 ρ2 (upd H2 D (.frz o (.lst acc))) := Mon.upd hd trivial
      have st' : Step ρ1 H1 ρ2 (upd H2 D (.frz o (.lst acc))) := st.mut hD
      exact P ρ2 _ _ st' ⟨RS.other hd trivial nd, RE.mono st'⟩ (.lst ⟨o, upd_same⟩ (r.monM m))
    · exact P.elim
theorem mkl_st {g : G} : MkL g newLS (fun Q => Q) where
  small := fun ws S h => by unfold newLS at h; split at h <;> first | assumption | exact absurd rfl h
  fin := fun xw ρ1 env σ H1 Q ρ2 S2 H2 D acc accw RE st hD RS nd hd r P => by
    unfold newLS at P
    split at P
    · have st' : Step ρ1 H1 (ρ2 ++ [D]) H2 := ⟨st.pre.trans (List.prefix_append _ _), fun a m => by
        rcases List.mem_append.mp m with m | m
        · exact st.fresh a m
        · have : a = D := by simpa using m
          subst this; exact .inr (fun o e => by rw [hD] at e; cases e), st.keep, st.tups, st.frzs⟩
      refine P _ _ _ st' ⟨RS.adopt nd ⟨acc, hd, r⟩, RE.mono st'⟩ (.ref ?_)
      rw [← RS.len, List.getElem?_append_right (Nat.le_refl _)]; simp
    · exact P.elim
theorem tLc_of {vs : List Nat} {σ : St} {H : Hp} {Q : VK} {ρ : List Addr} {env : Env} {S : Store} {mk : List W → Store → Res W} {F : VK → VK} (M : MkL ⟨X.K, cm⟩ mk F) (R : Rel ⟨X.K, cm⟩ ρ S env σ H)
    (P : EPost ⟨X.K, cm⟩ xw ρ env σ H Q ((iv env S).bind fun p S1 => (compL p.2 tg cond te (wipeE env vs) p.1 S1).bind fun ws S2 => mk ws S2)) :
    tLc (liftI ⟨X.K, cm⟩ xw iv) (liftG ⟨X.K, cm⟩ vs tg) (liftT ⟨X.K, cm⟩ xw0 cond) (liftE ⟨X.K, cm⟩ xw0 te) vs σ H (F Q) := by
  refine ⟨ρ, env, S, R, ?_⟩
  revert P
  cases iv env S with
  | exn c fs S1 => intro P; exact P
  | bad => intro P; exact P
  | ok p S1 =>
    obtain ⟨ws, gd⟩ := p
    intro P0 ρ1 J H1 st1 R1 wk D hD
    have P1 : EPost ⟨X.K, cm⟩ xw ρ1 env σ H1 Q ((compL gd tg cond te (wipeE env vs) ws S1).bind fun ws S2 => mk ws S2) := EPost.step st1 P0
    refine ⟨fun i m H2 => m + i = ws.length ∧ ∃ ρ2 S2 acc accw, Step ρ1 H1 ρ2 H2 ∧ D ∉ ρ2 ∧ RelS ⟨X.K, cm⟩ ρ2 S2 H2 ∧ H2 D = some (.lst acc) ∧ RepAll X.K ρ2 H2 acc accw ∧
      EPost ⟨X.K, cm⟩ xw ρ1 env σ H1 Q ((compL gd tg cond te (wipeE env vs) (ws.drop i) S2).bind fun vs S3 => mk (accw ++ vs) S3),
      ⟨ws.length, rfl, ρ1, S1, [], [], (Step.refl ρ1 H1).mut hD, R1.s.notin hD, R1.s.new hD, upd_same, .nil, P1⟩, ?_⟩
    rintro i m H2 ⟨hm, ρ2, S2, acc, accw, st2, nd2, R2, hd2, r2, P2⟩
    have E2 : RelE ⟨X.K, cm⟩ ρ2 (wipeE env vs) (wipe σ vs) H2 := (R1.e.mono st2).wiped vs
    -- the guard's state, seen from the walk
    have walk : ∀ j, gdOk gd S2 → (∀ w, ws[j]? = some w → J.go j H2 ∧ ∀ x H3, J.yld j H2 x H3 → Step ρ2 H2 ρ2 H3 ∧ RelS ⟨X.K, cm⟩ ρ2 S2 H3 ∧ Rep X.K ρ2 H3 x w) ∧ (ws.length = j → J.stop j H2) := fun j hg => wk ρ2 H2 S2 st2 R2 hg j
    cases hd : ws.drop i with
    | nil =>
      have hl : ws.length = i := by
        have := congrArg List.length hd
        simp at this
        omega
      rw [hd] at P2
      unfold compL at P2
      split at P2
      · rename_i hgd
        simp only [Res.bind_ok, List.append_nil] at P2
        exact .inl ⟨(walk i hgd).2 hl, M.fin xw ρ1 env σ H1 Q ρ2 S2 H2 D acc accw R1.e st2 hD R2 nd2 hd2 r2 P2⟩
      · exact P2.elim
    | cons w rest =>
      have hw : ws[i]? = some w := by
        have := congrArg (fun l => l[0]?) hd
        simpa using this
      have hr : ws.drop (i + 1) = rest := by
        have := congrArg List.tail hd
        simpa using this
      have hlt : i < ws.length := (List.getElem?_eq_some_iff.mp hw).1
      rw [hd] at P2
      unfold compL at P2
      split at P2
      · rename_i hgd
        obtain ⟨go, yl⟩ := (walk i hgd).1 w hw
        split at P2
        · rename_i e1 hg1
          obtain ⟨b, S3, hc1, P3⟩ := TPost.calm P2
          refine .inr ⟨go, fun H' => ∃ ρ3 S4 acc' accw', Step ρ1 H1 ρ3 H' ∧ D ∉ ρ3 ∧ RelS ⟨X.K, cm⟩ ρ3 S4 H' ∧ H' D = some (.lst acc') ∧ RepAll X.K ρ3 H' acc' accw' ∧
            EPost ⟨X.K, cm⟩ xw ρ1 env σ H1 Q ((compL gd tg cond te (wipeE env vs) (ws.drop (i + 1)) S4).bind fun vs S3 => mk (accw' ++ vs) S3), ?_, ?_⟩
          · rintro H' ⟨ρ3, S4, acc', accw', h⟩
            exact ⟨m - 1, by omega, by omega, ρ3, S4, acc', accw', h⟩
          · intro x H3 y
            obtain ⟨st3, R3, r3⟩ := yl x H3 y
            have hd3 : H3 D = some (.lst acc) := st3.keep D _ hd2 nd2 (fun _ z => nomatch z)
            refine ⟨ρ2, wipeE env vs, S2, w, e1, ⟨R3, E2.mono st3⟩, r3, hg1, fun σ' R' hwp => ⟨by
              rw [hwp]
              have idem : ∀ (us : List Nat) (τ : St), wipe (wipe τ us) us = wipe τ us := by
                intro us τ
                have all : ∀ vs' : List Nat, (∀ v ∈ vs', v ∈ us) → wipe (wipe τ us) vs' = wipe τ us := by
                  intro vs'
                  induction vs' with
                  | nil => intro _; rfl
                  | cons v vs' ih =>
                    intro h
                    show (wipe (wipe τ us) vs').set v none = wipe τ us
                    rw [ih fun z hz => h z (List.mem_cons_of_mem _ hz)]
                    have hv := h v List.mem_cons_self
                    clear ih h
                    induction us with
                    | nil => cases hv
                    | cons u us ih2 =>
                      show ((wipe τ us).set u none).set v none = (wipe τ us).set u none
                      by_cases e : u = v
                      · subst e; rw [List.set_set]
                      · rw [List.set_comm _ _ e]
                        have hv' : v ∈ us := by
                          rcases List.mem_cons.mp hv with z | z
                          · exact absurd z.symm e
                          · exact z
                        rw [ih2 hv']
                exact all us fun _ h => h
              exact idem vs σ, ρ2, e1, S2, R', ?_⟩⟩
            rw [hc1]
            intro ρ4 H4 st4 R4
            have hd4 : H4 D = some (.lst acc) := st4.keep D _ hd3 nd2 (fun _ z => nomatch z)
            have nd4 : D ∉ ρ4 := st4.notin hd3 nd2
            have st14 : Step ρ1 H1 ρ4 H4 := (st2.trans st3).trans st4
            have r4 : RepAll X.K ρ4 H4 acc accw := (r2.mono st3).mono st4
            cases b with
            | false =>
              simp only [Bool.false_eq_true, if_false] at P3 ⊢
              exact ⟨ρ4, S3, acc, accw, st14, nd4, R4.s, hd4, r4, by rw [hr]; exact P3⟩
            | true =>
              simp only [if_true] at P3 ⊢
              obtain ⟨v, S5, he1, P5⟩ := EPost.calm P3
              refine ⟨ρ4, e1, S3, R4, ?_⟩
              rw [he1]
              intro ρ5 vv H5 st5 R5 r5
              have hd5 : H5 D = some (.lst acc) := st5.keep D _ hd4 nd4 (fun _ z => nomatch z)
              have nd5 : D ∉ ρ5 := st5.notin hd4 nd4
              rw [Res.bind_assoc] at P5
              have ok5 : ∃ us S6, compL gd tg cond te (wipeE env vs) rest S5 = .ok us S6 ∧ (accw ++ v :: us).length ≤ LIM := by
                revert P5
                cases h6 : compL gd tg cond te (wipeE env vs) rest S5 with
                | ok us S6 =>
                  intro P5
                  refine ⟨us, S6, rfl, M.small _ S6 fun z => ?_⟩
                  simp only [Res.bind_ok] at P5
                  rw [z] at P5
                  exact P5
                | exn c fs S6 => intro _; exact absurd h6 (compL_quiet _ _ _ _ _)
                | bad => intro P5; exact P5.elim
              obtain ⟨us, S6, h6, hlen⟩ := ok5
              have mon : Mon ρ5 H5 ρ5 (upd H5 D (.lst (acc ++ [vv]))) := Mon.upd hd5 trivial
              refine ⟨acc, hd5, ?_, ρ5, S5, acc ++ [vv], accw ++ [v], (st14.trans st5).mut hD, nd5, R5.s.other hd5 trivial nd5, upd_same, ((r4.mono st5).append (.cons r5 .nil)).monM mon, ?_⟩
              · have := lim_line hlen
                rw [List.length_append, List.length_cons] at this
                rw [r4.length]
                omega
              · rw [hr]
                rw [h6] at P5 ⊢
                simp only [Res.bind_ok] at P5 ⊢
                rw [List.append_assoc]
                exact P5
        · exact P2.elim
      · exact P2.elim
variable {scope : Scope} {own : List (Str × Nat)}
theorem ew_comp (hc : X.calm = true) (hN : X.N.Nodup) (hi : IW X cm xw tgt iter iv) (ok : blkC X.N X.env.scope scope own = true)
    (hg : ∀ (s : Shared) (H : Hp) (C : Addr) (cl : List (Str × Addr)) (fp : List Addr), GW (X.blk s H scope (compEnvC scope cl C X.env) fp) cm (own.map (·.2)) tgt tg) (ht : ∀ (s : Shared) (H : Hp) (C : Addr) (cl : List (Str × Addr)) (fp : List Addr), CW (X.blk s H scope (compEnvC scope cl C X.env) fp) cm xw0 ifs cond)
    (he : ∀ (s : Shared) (H : Hp) (C : Addr) (cl : List (Str × Addr)) (fp : List Addr), EW (X.blk s H scope (compEnvC scope cl C X.env) fp) cm xw0 elt te) (hs : ∀ x, foldedSetIterable iter X.env x = pure x := by intro _; rfl) :
    EW X cm xw (.ListComp elt [⟨tgt, iter, ifs, 0⟩] scope pos) (eComp iv tg cond te (own.map (·.2))) :=
  (pe_fz (pe_lc hc hN hi (blkOk_by ok) hg ht he hs)).wimp fun σ H Q ⟨ρ, env, S, R, P⟩ => tLc_of mkl_fz R P
theorem ew_compS (hc : X.calm = true) (hN : X.N.Nodup) (hi : IW X cm xw tgt iter iv) (ok : blkC X.N X.env.scope scope own = true)
    (hg : ∀ (s : Shared) (H : Hp) (C : Addr) (cl : List (Str × Addr)) (fp : List Addr), GW (X.blk s H scope (compEnvC scope cl C X.env) fp) cm (own.map (·.2)) tgt tg) (ht : ∀ (s : Shared) (H : Hp) (C : Addr) (cl : List (Str × Addr)) (fp : List Addr), CW (X.blk s H scope (compEnvC scope cl C X.env) fp) cm xw0 ifs cond)
    (he : ∀ (s : Shared) (H : Hp) (C : Addr) (cl : List (Str × Addr)) (fp : List Addr), EW (X.blk s H scope (compEnvC scope cl C X.env) fp) cm xw0 elt te) (hs : ∀ x, foldedSetIterable iter X.env x = pure x := by intro _; rfl) :
    EW X cm xw (.ListComp elt [⟨tgt, iter, ifs, 0⟩] scope pos) (eCompS iv tg cond te (own.map (·.2))) :=
  (pe_lc hc hN hi (blkOk_by ok) hg ht he hs).wimp fun σ H Q ⟨ρ, env, S, R, P⟩ => tLc_of mkl_st R P
end

end HW
namespace HW
open PySem (Str)
def runBody (n N : Nat) (sv : Sv) : Fv := fun ws S => if ws.length = n then (match sv (ws.map some ++ List.replicate (N - n) none) S with
  | .nx _ S1 => .ok .non S1
  | .rt w S1 => .ok w S1
  | .exn c fs _ S1 => .exn c fs S1
  | _ => .bad) else .bad
mutual
/-- all its places are below k -/
def W.clo (k : Nat) : W → Bool
  | .non => true
  | .bl _ => true
  | .int _ => true
  | .str _ => true
  | .tup xs => W.cloL k xs
  | .lst xs => W.cloL k xs
  | .xls xs => W.cloL k xs
  | .ref n => decide (n < k)
def W.cloL (k : Nat) : List W → Bool
  | [] => true
  | x :: xs => x.clo k && W.cloL k xs
end
def cloF {κ : Type} (k : Nat) : List (κ × W) → Bool
  | [] => true
  | (_, x) :: xs => x.clo k && cloF k xs
def O.clo (k : Nat) : O → Bool
  | .lst xs => W.cloL k xs
  | .dK fs => cloF k fs
  | .dN _ => false
  | .ins _ fs => cloF k fs
  | .dead => true
/-- all places in the store lead to the store -/
def closedS (S : Store) : Bool := S.all (O.clo S.length)
mutual
theorem W.clo_mono {j k : Nat} (h : j ≤ k) : ∀ (w : W), w.clo j = true → w.clo k = true
  | .non, _ => rfl
  | .bl _, _ => rfl
  | .int _, _ => rfl
  | .str _, _ => rfl
  | .tup xs, q => W.cloL_mono h xs q
  | .lst xs, q => W.cloL_mono h xs q
  | .xls xs, q => W.cloL_mono h xs q
  | .ref n, q => by
    have q' : decide (n < j) = true := q
    show decide (n < k) = true
    simp at q' ⊢
    omega
theorem W.cloL_mono {j k : Nat} (h : j ≤ k) : ∀ (ws : List W), W.cloL j ws = true → W.cloL k ws = true
  | [], _ => rfl
  | x :: xs, q => by
    have q' : (x.clo j && W.cloL j xs) = true := q
    show (x.clo k && W.cloL k xs) = true
    rw [Bool.and_eq_true] at q' ⊢
    exact ⟨W.clo_mono h x q'.1, W.cloL_mono h xs q'.2⟩
end
/-- f' tells no more than f does: where it tells anything, it is that, or that without a tail of the store to which nothing leads -/
def Tells (r r' : Res W) (S : Store) : Prop :=
  match r' with
  | .bad => True
  | .ok w T => ∃ J, r = .ok w (T ++ J) ∧ (J = [] ∨ (S.length ≤ T.length ∧ w.clo T.length = true ∧ closedS T = true))
  | .exn c fs T => ∃ J, r = .exn c fs (T ++ J) ∧ (J = [] ∨ (S.length ≤ T.length ∧ cloF T.length fs = true ∧ closedS T = true))
def Impl (f f' : Fv) : Prop := ∀ ws S, Tells (f ws S) (f' ws S) S
theorem Impl.refl (f : Fv) : Impl f f := fun ws S => by
  unfold Tells
  cases f ws S with
  | ok w T => exact ⟨[], by simp, .inl rfl⟩
  | exn c fs T => exact ⟨[], by simp, .inl rfl⟩
  | bad => trivial
/-- a list of the store, frozen from now on; its place is dead -/
def freezeW (w : W) (S : Store) : Res W := match w with
  | .ref n => (match S[n]? with
    | some (.lst xs) => .ok (.lst xs) (S.set n .dead)
    | _ => .bad)
  | _ => .bad
def eFz (e : Ev) : Ev := fun env S => (e env S).bind fun w S1 => freezeW w S1
def sBad : Sv := fun _ _ => .bad
end HW
namespace HW
open PySem L2
open PyProof.Rows hiding St
/-! ### enumerate of a tuple (the library has lists, texts) -/
section
open PySem.AutoSeq1 (wpAny_loadPart')
theorem meets_enumerate_newT (l : Addr) (items : Array Value) (n : Nat) (dct : Option Addr) (sl : Array (Option Value)) :
    Meets (Builtin.«enumerate.__new__» ⟨[.type "enumerate", .ref l], []⟩) (fun _ R s => s.heap.get? l = some { cls := .type "tuple", dict := dct, data := .seq items n, slots := sl } ∧
      R (.ok (.ret (.ref (s.heap.push { cls := .type "tuple_iterator", data := .fields #[.ref l, .int 0 0] }).objs.size)))
        { s with heap := (s.heap.push { cls := .type "tuple_iterator", data := .fields #[.ref l, .int 0 0] }).push { cls := .type "enumerate", data := .fields #[.none, .bool false, .ref s.heap.objs.size, rawInt 0, .none, .none] } }) :=
  .of_wp fun prog w A R s h => by
    obtain ⟨hp, g, d, tk, os⟩ := s; obtain ⟨hl, h⟩ := h
    have hsub := sub_enumerate
    have hL : Heap.IsTuple (Shared.heap ⟨hp, g, d, tk, os⟩) l items := ⟨_, hl, rfl, n, rfl⟩
    wp_walk using wpAny_loadPart' hl
    refine wpAny_stack_any fun st => wpAny_pure ?_
    split
    · rename_i c _ _ _ _ _
      cases (c == Value.type "enumerate")
      · wp_walk using wpAny_loadPart' hl, wpAny_pyIter_tuple hL
        exact ⟨_, rfl, h⟩
      · wp_walk using wpAny_loadPart' hl, wpAny_pyIter_tuple hL
        exact ⟨_, rfl, h⟩
    · wp_walk using wpAny_loadPart' hl, wpAny_pyIter_tuple hL
      exact ⟨_, rfl, h⟩
variable {prog : Program} {w : World} {A : Around} {E : Value → Shared → Prop} {s : Shared}
theorem call_enumerate_tuple {l : Addr} {items : Array Value} {Q : Value → Shared → Prop} (hL : s.heap.IsTuple l items)
    (h : ∀ h', IsEnum h' (s.heap.objs.size + 1) s.heap.objs.size 0 .none → h'.IsTupleIter s.heap.objs.size l 0 → h'.objs.size = s.heap.objs.size + 2 →
      (∀ b o, s.heap.get? b = some o → h'.get? b = some o) → Q (.ref (s.heap.objs.size + 1)) { s with heap := h' }) :
    wpAny (model prog w) A (call (.type "enumerate") [.ref l]) Q E s := by
  obtain ⟨⟨c, dct, dt, sl⟩, hl, hc, n, hd⟩ := hL
  replace hc : c = .type "tuple" := hc
  replace hd : dt = .seq items n := hd
  subst hc hd
  refine callType_new F.called_enumerate (by decide) (F.typeCall_enumerate_1 _) (F.newCall_enumerate_1 _) (fun obj => F.args_object_init_2 obj _) F.entry_enumerate_new
    (meets_enumerate_newT l items n dct sl) ⟨hl, ?_⟩
  have hz : (s.heap.push { cls := .type "tuple_iterator", data := .fields #[.ref l, .int 0 0] }).objs.size = s.heap.objs.size + 1 := Heap.size_push ..
  show _ ∧ _
  rw [hz]
  have he : IsEnum ((s.heap.push { cls := .type "tuple_iterator", data := .fields #[.ref l, .int 0 0] }).push
      { cls := .type "enumerate", data := .fields #[.none, .bool false, .ref s.heap.objs.size, rawInt 0, .none, .none] }) (s.heap.objs.size + 1) s.heap.objs.size 0 .none := by
    have := Heap.get?_push_size (s.heap.push { cls := .type "tuple_iterator", data := .fields #[.ref l, .int 0 0] })
      (o := { cls := .type "enumerate", data := .fields #[.none, .bool false, .ref s.heap.objs.size, rawInt 0, .none, .none] }) rfl
    rw [hz] at this; exact this
  refine ⟨⟨_, he, rfl⟩, h _ he ⟨_, Heap.get?_push_of_some _ (Heap.get?_push_size _ rfl), rfl, rfl⟩ (by rw [Heap.size_push, hz]) fun b o x => Heap.get?_push_of_some _ (Heap.get?_push_of_some _ x)⟩
end
section
/-- the tuple at a, each item in a new pair -/
def IteT (K : PySem.W.Frag) (a : Addr) : It :=
  ⟨fun i H => ∃ (xs : List V) (x : V), SqT K H a xs ∧ xs[i]? = some x, fun i H v H' => ∃ T x, v = .ref T ∧ H T = none ∧ H' = upd H T (.tup [.int (i : Nat), x]) ∧ ∀ xs, SqT K H a xs → xs[i]? = some x, fun i H => ∃ xs : List V, SqT K H a xs ∧ xs.length = i⟩
theorem turn_enumT {P : Program} {w : World} {K : PySem.W.Frag} {elts : List Expr} {kk : Nat} {tpos : Pos} (a e it : Addr) (hai : a ≠ it) (hae : a ≠ e) :
    Turn P w K (.Tuple elts kk tpos) (IteT K a) [e, it] e (fun i h => (∃ old, IsEnum h e it ((i : Nat) : Int) old) ∧ h.IsTupleIter it a i ∧ e ≠ it) where
  mem := by simp
  obj := fun i h st b hb => by
    obtain ⟨⟨old, he⟩, ⟨o, ho, hc, hd⟩, _⟩ := st
    have e' : b = e ∨ b = it := by simpa using hb
    rcases e' with z | z
    · rw [z]; exact ⟨_, he, fun v q => nomatch q⟩
    · rw [z]; exact ⟨o, ho, fun v q => by rw [hd] at q; cases q⟩
  keep := fun i h h' st k => let ⟨⟨old, he⟩, hi, hne⟩ := st; ⟨⟨old, k e (by simp) _ he⟩, hi.at fun o q => k it (by simp) o q, hne⟩
  item := by
    intro X hP hw hK hc i pins s σ H E I hf st hg
    subst hP hw hK
    obtain ⟨⟨old, he⟩, hit, hne⟩ := st
    obtain ⟨xs, x, hq, hx⟩ := hg
    obtain ⟨its, rv, p, hz⟩ := I.tuple hq
    obtain ⟨u, hu, ru⟩ := rv.get hx
    have hlt : i < its.toArray.size := by
      have := (List.getElem?_eq_some_iff.mp hu).1
      simpa using this
    have hel : e < s.heap.objs.size := Heap.lt_size he
    have hil : it < s.heap.objs.size := by obtain ⟨_, q, _⟩ := hit; exact Heap.lt_size q
    have pT : s.heap.IsTuple a its.toArray := p
    refine wpAny_pyNext_enum_itemD (Draws.tuple (A := X.A.in1) (I.ok.hd hc) it a hai its.toArray) he ⟨hit, pT⟩ hlt hne (by simp [hne, Ne.symm hae]) fun x' h' tk hx' ho st' hT hsz hk => ?_
    have ex : x' = u := by
      have hx2 : its.toArray[i]? = some x' := hx'
      have : its.toArray[i]? = some u := by simpa using hu
      rw [this] at hx2; cases hx2; rfl
    subst ex
    refine ⟨_, rfl, wpAny_letOwnedTupleGo_enum (s := { s with heap := h', toks := tk + 1 }) ho fun h'' he' sb => ?_⟩
    have hT2 : h''.get? s.heap.objs.size = some { cls := .type "tuple", data := .seq #[.int i tk, x'] } := (sb.2 _ (Nat.ne_of_gt hel)).trans hT
    have new : ObjOk X.prog X.w (upd H s.heap.objs.size (.tup [.int (i : Nat), x])) h'' s.heap.objs.size (.tup [.int (i : Nat), x]) :=
      ⟨by show 2 ≤ sizeLine; decide, [.int i tk, x'], .cons ⟨_, rfl⟩ (.cons ru .nil), ⟨_, hT2, rfl, _, rfl⟩⟩
    have I1 : Inv X pins σ (upd H s.heap.objs.size (.tup [.int (i : Nat), x])) { s with heap := h'', toks := tk + 1 } :=
      I.turnedNew (ch := [e, it]) (fun b ob hb q => (sb.2 b (fun z => hb (by simp [z]))).trans (hk b ob (fun z => hb (by simp [z])) (fun z => hb (by simp [z])) q)) hf (Nat.le_refl _) new
    refine ⟨.ref s.heap.objs.size, _, I1, rfl, ⟨_, x, rfl, I.hok.fresh (Nat.le_refl _), rfl, fun ys hy => by rw [I.tuple_inj hy hq]; exact hx⟩, ⟨⟨x', ?_⟩, st'.1.at fun o q => (sb.2 it (Ne.symm hne)).trans q, hne⟩, fun b hb => ?_⟩
    · have e1 : ((i + 1 : Nat) : Int) = (i : Int) + 1 := by omega
      rw [e1]; exact he'
    · have hb' : b < s.heap.objs.size := by
        have e' : b = e ∨ b = it := by simpa using hb
        rcases e' with z | z
        · rw [z]; exact hel
        · rw [z]; exact hil
      rw [upd_ne (Nat.ne_of_lt hb')]
      exact (hf b hb).1
  done := by
    intro X hP hw hK hc i pins s σ H E I hf st hg
    subst hP hw hK
    obtain ⟨⟨old, he⟩, hit, hne⟩ := st
    obtain ⟨xs, hq, hx⟩ := hg
    obtain ⟨its, rv, p, hz⟩ := I.tuple hq
    obtain ⟨f0, f1, f2, f3, f4, f5⟩ := hf it (by simp)
    have hl := rv.length
    have pT : s.heap.IsTuple a its.toArray := p
    have en : i = its.toArray.size := by simp; omega
    subst en
    exact wpAny_pyNext_enum_endD (Draws.tuple (A := X.A.in1) (I.ok.hd hc) it a hai its.toArray) he ⟨hit, pT⟩ fun h' eb => ⟨rfl, I.turned (t' := s.toks) (fun b o hb q => eb b o hb q) f0 f1 f3 f4 f5⟩
  self := fun A i s Q E st h => let ⟨⟨_, he⟩, _⟩ := st; wpAny_pyIter_enum he h
/-- enumerate of a list, of a tuple -/
def iEnumA (K : PySem.W.Frag) (ta : TA) : TI := fun σ H R => ta σ H fun vs H1 => ∃ a xs, vs = [.ref a] ∧ ((SqL K H1 a xs ∧ R (Ite K a) H1) ∨ (SqT K H1 a xs ∧ R (IteT K a) H1))
theorem pi_enumA {X : Cx} {e : Expr} {ta : TA} {p pos tpos : Pos} {elts : List Expr} {kk : Nat} (hg : Gl X "enumerate") (hm : X.mg "enumerate" = none) (ha : PA X [e] ta) (hs : starEach [e] X.env = [(false, eval e X.env)] := by rfl) :
    PI X (.Tuple elts kk tpos) (.Call (.Name "enumerate" p) [e] [] pos) (iEnumA X.K ta) := by
  refine ⟨fun pins s σ H R I h => ?_⟩
  refine Call_ (ld_blt I hg hm boot_enumerate (PyProof.Rows.callWith_type1 (thn (ha.run pos pins s σ H _ I h) fun us s1 ⟨vs, H1, I1, r1, q1⟩ => ?_) hs rfl))
  obtain ⟨a, xs, ex, q1⟩ := q1
  subst ex
  cases r1 with
  | cons r rr =>
    cases rr
    cases r
    have fin : ∀ (h' : Heap) (J : It) (tn : Nat → Heap → Prop), (∀ b o, s1.heap.get? b = some o → h'.get? b = some o) → Turn X.prog X.w X.K (.Tuple elts kk tpos) J [s1.heap.objs.size + 1, s1.heap.objs.size] (s1.heap.objs.size + 1) tn → tn 0 h' → R J H1 → PIE X pins σ (.Tuple elts kk tpos) R (.ref (s1.heap.objs.size + 1)) { s1 with heap := h' } := fun h' J tn hk T st q => by
      have I2 : Inv X pins σ H1 { s1 with heap := h' } := I1.kept (t' := s1.toks) hk
      refine ⟨s1.heap.objs.size + 1, [s1.heap.objs.size + 1, s1.heap.objs.size], _, _, H1, rfl, I2, T, st, fun b hb => ?_, q⟩
      have e' : b = s1.heap.objs.size + 1 ∨ b = s1.heap.objs.size := by simpa using hb
      have hle : s1.heap.objs.size ≤ b := by
        rcases e' with z | z
        · rw [z]; exact Nat.le_add_right _ _
        · rw [z]; exact Nat.le_refl _
      exact I1.fpOk hle (I1.hok.fresh hle)
    rcases q1 with ⟨hq, q⟩ | ⟨hq, q⟩
    · obtain ⟨its, rv, p', hz⟩ := I1.list hq
      exact call_enumerate_list p'.isList fun h' he hit hsz hk => wpAny_pyIter_enum he (fin h' _ _ hk (turn_enum a (s1.heap.objs.size + 1) s1.heap.objs.size) ⟨⟨.none, he⟩, hit, Nat.succ_ne_self _⟩ q)
    · obtain ⟨its, rv, p', hz⟩ := I1.tuple hq
      have hal : a < s1.heap.objs.size := p'.lt
      exact call_enumerate_tuple (show s1.heap.IsTuple a its.toArray from p') fun h' he hit hsz hk => wpAny_pyIter_enum he (fin h' _ _ hk (turn_enumT a (s1.heap.objs.size + 1) s1.heap.objs.size (Nat.ne_of_lt hal) (Nat.ne_of_lt (Nat.lt_succ_of_lt hal))) ⟨⟨.none, he⟩, hit, Nat.succ_ne_self _⟩ q)
/-- a list or a tuple, walked -/
def iSeqV (K : PySem.W.Frag) (tl : TE) : TI := fun σ H R => tl σ H fun x H1 => ∃ a xs, x = .ref a ∧ ((SqL K H1 a xs ∧ R (Itl K a) H1) ∨ (SqT K H1 a xs ∧ R (Itt K a) H1))
theorem pi_seqV {X : Cx} {tg l : Expr} {tl : TE} (hl : PE X l tl) : PI X tg l (iSeqV X.K tl) := by
  refine ⟨fun pins s σ H R I h => ?_⟩
  refine thn (hl.run pins s σ H _ I h) fun v s1 ⟨x, H1, I1, r1, q1⟩ => ?_
  obtain ⟨a, xs, e, q1⟩ := q1
  subst e
  cases r1
  rcases q1 with ⟨hq, q⟩ | ⟨hq, q⟩
  · obtain ⟨its, rv, p, hz⟩ := I1.list hq
    refine wpAny_pyIter_list p.isList ?_
    refine ⟨s1.heap.objs.size, [s1.heap.objs.size], _, _, H1, rfl, I1.kept (t' := s1.toks) fun b o e => Heap.get?_push_of_some _ e, turn_list a _, ⟨_, Heap.get?_push_size _ rfl, rfl, rfl⟩, fun b hb => ?_, q⟩
    have e : b = s1.heap.objs.size := by simpa using hb
    subst e
    exact I1.fpOk (Nat.le_refl _) (I1.hok.fresh (Nat.le_refl _))
  · obtain ⟨its, rv, p, hz⟩ := I1.tuple hq
    refine wpAny_pyIter_tuple (show s1.heap.IsTuple a its.toArray from p) ?_
    refine ⟨s1.heap.objs.size, [s1.heap.objs.size], _, _, H1, rfl, I1.kept (t' := s1.toks) fun b o e => Heap.get?_push_of_some _ e, turn_tuple a _, ⟨_, Heap.get?_push_size _ rfl, rfl, rfl⟩, fun b hb => ?_, q⟩
    have e : b = s1.heap.objs.size := by simpa using hb
    subst e
    exact I1.fpOk (Nat.le_refl _) (I1.hok.fresh (Nat.le_refl _))
end

section
variable {X : Cx} {cm : CM} {xw : WX} {pos p2 : Pos} {a b e elt tgt iter : Expr} {es ifs : List Expr} {ta tb te : Ev} {tr : Av} {t u cond : Tv} {i : Nat} {x : Str} {iv : Iv} {tg : Gv}
/-- a walked thing: a tuple | a list, and it stays -/
inductive Wk (g : G) (ρ : List Addr) (H : Hp) (a : Addr) (ws : List W) (gd : Gd) : Prop
  | tup (vs : List V) : SqT g.K H a vs → RepAll g.K ρ H vs ws → Wk g ρ H a ws gd
  | lst (vs : List V) : SqL g.K H a vs → (∀ ρ2 H2 S2, Step ρ H ρ2 H2 → RelS g ρ2 S2 H2 → gdOk gd S2 → ∃ vs2, SqL g.K H2 a vs2 ∧ RepAll g.K ρ2 H2 vs2 ws) → Wk g ρ H a ws gd
theorem wk_of {g : G} {ρ : List Addr} {S : Store} {H : Hp} {v : V} {w : W} {ws : List W} (R : RelS g ρ S H) (r : Rep g.K ρ H v w) (e : seqT w S = some ws) : ∃ a, v = .ref a ∧ Wk g ρ H a ws (guardOf w S) := by
  cases r with
  | tup h q => cases e; exact ⟨_, rfl, .tup _ h q⟩
  | lst h q =>
    cases e
    exact ⟨_, rfl, .lst _ (.inl h.rd) fun ρ2 H2 S2 st R2 _ => ⟨_, .inl (.inr ⟨h.choose, st.frzs _ _ _ h.choose_spec⟩), q.mono st⟩⟩
  | xls h q =>
    cases e
    exact ⟨_, rfl, .lst _ h.sq fun ρ2 H2 S2 st R2 _ => ⟨_, (st.mon.fzL h).sq, q.mono st⟩⟩
  | ref h =>
    rename_i a n
    have e' : seqL (.ref n) S = some ws := e
    obtain ⟨a', vs, h1, h2, h3⟩ := seqL_rep R (.ref h) e'
    cases h1
    refine ⟨_, rfl, .lst vs (.inl h2) fun ρ2 H2 S2 st R2 hg => ?_⟩
    unfold seqL at e'
    dsimp only at e'
    split at e'
    · rename_i xs hx
      cases e'
      unfold guardOf at hg
      simp only [hx] at hg
      obtain ⟨a2, k1, vs2, k2, k3⟩ := R2.obj n _ hg
      rw [pre_get st.pre h] at k1
      cases k1
      exact ⟨vs2, .inl (.inl k2), k3⟩
    · cases e'
  | _ => cases e
/-- one new pair at each turn -/
theorem pair_step {g : G} {ρ : List Addr} {S : Store} {H : Hp} {T : Addr} {x y : V} {u w : W} (R : RelS g ρ S H) (hT : H T = none) (rx : Rep g.K ρ H x u) (ry : Rep g.K ρ H y w) :
    Step ρ H ρ (upd H T (.tup [x, y])) ∧ RelS g ρ S (upd H T (.tup [x, y])) ∧ Rep g.K ρ (upd H T (.tup [x, y])) (.ref T) (.tup [u, w]) := by
  have st : Step ρ H ρ (upd H T (.tup [x, y])) := Step.new hT
  exact ⟨st, R.new hT, .tup (.inl (.inl upd_same)) (.cons (rx.mono st) (.cons (ry.mono st) .nil))⟩
theorem sqL_at {K : PySem.W.Frag} {H : Hp} {a : Addr} {P : List V → Prop} (i : Nat) : True := trivial
variable {ih : ∀ σ H Q, True}
theorem liftE.bindI {te : Ev} {g : G} {ρ : List Addr} {env : Env} {S : Store} {σ : St} {H : Hp} {k : W → Store → Res (List W × Gd)} {R0 : It → Hp → Prop} {Qm : VK} (R : Rel g ρ S env σ H) (P : IPost g xw ρ env σ H R0 ((te env S).bind k))
    (h : ∀ ρ1 w S1 v H1, Step ρ H ρ1 H1 → Rel g ρ1 S1 env σ H1 → Rep g.K ρ1 H1 v w → IPost g xw ρ1 env σ H1 R0 (k w S1) → Qm v H1) : liftE g xw te σ H Qm := by
  refine ⟨ρ, env, S, R, ?_⟩
  cases e : te env S with
  | ok w S1 => rw [e] at P; exact fun ρ1 v H1 st R1 r1 => h ρ1 w S1 v H1 st R1 r1 (IPost.step st P)
  | exn c fs S1 => rw [e] at P; exact P
  | bad => rw [e] at P; exact P
theorem liftA.bindI {te : Av} {g : G} {ρ : List Addr} {env : Env} {S : Store} {σ : St} {H : Hp} {k : List W → Store → Res (List W × Gd)} {R0 : It → Hp → Prop} {Qm : List V → Hp → Prop} (R : Rel g ρ S env σ H) (P : IPost g xw ρ env σ H R0 ((te env S).bind k))
    (h : ∀ ρ1 w S1 v H1, Step ρ H ρ1 H1 → Rel g ρ1 S1 env σ H1 → RepAll g.K ρ1 H1 v w → IPost g xw ρ1 env σ H1 R0 (k w S1) → Qm v H1) : liftA g xw te σ H Qm := by
  refine ⟨ρ, env, S, R, ?_⟩
  cases e : te env S with
  | ok w S1 => rw [e] at P; exact fun ρ1 v H1 st R1 r1 => h ρ1 w S1 v H1 st R1 r1 (IPost.step st P)
  | exn c fs S1 => rw [e] at P; exact P
  | bad => rw [e] at P; exact P
theorem rep_inj_list {g : G} {ρ : List Addr} {H : Hp} {vs : List V} {ws : List W} {i : Nat} (r : RepAll g.K ρ H vs ws) : ws.length = i → vs.length = i := fun h => by rw [r.length]; exact h
theorem iw_seqI (he : EW X cm xw e te) : IW X cm xw tgt e (iSeq te) := by
  refine pi_wimp (pi_seqV he) fun σ H R0 ⟨ρ, env, S, R, P⟩ => ?_
  refine liftE.bindI R P fun ρ1 w S1 v H1 st R1 r1 P1 => ?_
  split at P1
  · rename_i ws hw
    obtain ⟨a, rfl, k⟩ := wk_of R1.s r1 hw
    cases k with
    | tup vs hq q =>
      refine ⟨a, vs, rfl, .inr ⟨hq, P1 ρ1 _ H1 (Step.refl _ _) R1 fun ρ2 H2 S2 st2 R2 _ i => ⟨fun w hw => ?_, fun hl => ?_⟩⟩⟩
      · obtain ⟨x, h1, h2⟩ := q.get hw
        exact ⟨⟨vs, x, st2.mon.sqT hq, h1⟩, fun y H3 ⟨e1, e2⟩ => by
          subst e1
          have := e2 vs (st2.mon.sqT hq)
          rw [h1] at this; cases this
          exact ⟨Step.refl _ _, R2, h2.mono st2⟩⟩
      · exact ⟨vs, st2.mon.sqT hq, by rw [q.length]; exact Nat.le_of_eq hl⟩
    | lst vs hq k =>
      refine ⟨a, vs, rfl, .inl ⟨hq, P1 ρ1 _ H1 (Step.refl _ _) R1 fun ρ2 H2 S2 st2 R2 hg i => ?_⟩⟩
      obtain ⟨vs2, hq2, q2⟩ := k ρ2 H2 S2 st2 R2 hg
      refine ⟨fun w hw => ?_, fun hl => ⟨vs2, hq2, by rw [q2.length]; exact Nat.le_of_eq hl⟩⟩
      obtain ⟨x, h1, h2⟩ := q2.get hw
      exact ⟨⟨vs2, x, hq2, h1⟩, fun y H3 ⟨e1, e2⟩ => by
        subst e1
        have := e2 vs2 hq2
        rw [h1] at this; cases this
        exact ⟨Step.refl _ _, R2, h2⟩⟩
  · exact P1.elim
/-- enumerate(e): pairs -/
def enumL (ws : List W) : List W := ws.zipIdx.map fun p => .tup [.int (p.2 : Nat), p.1]
def iEnum' (a : Av) : Iv := fun env S => (a env S).bind fun ws S1 => match ws with
  | [w] => (match seqT w S1 with
    | some xs => .ok (enumL xs, guardOf w S1) S1
    | none => .bad)
  | _ => .bad
theorem enumL_get {ws : List W} {i : Nat} {w : W} (h : (enumL ws)[i]? = some w) : ∃ u, ws[i]? = some u ∧ w = .tup [.int (i : Nat), u] := by
  unfold enumL at h
  rw [List.getElem?_map, List.getElem?_zipIdx] at h
  cases q : ws[i]? with
  | none => rw [q] at h; cases h
  | some u => rw [q] at h; simp at h; exact ⟨u, rfl, h.symm⟩
theorem enumL_length (ws : List W) : (enumL ws).length = ws.length := by unfold enumL; simp
theorem iw_enum {elts : List Expr} {kk : Nat} {tpos : Pos} {p : Pos} (hg : Gl X "enumerate") (hm : X.mg "enumerate" = none) (ha : AW X cm xw [e] tr) (hs : starEach [e] X.env = [(false, eval e X.env)] := by rfl) :
    IW X cm xw (.Tuple elts kk tpos) (.Call (.Name "enumerate" p) [e] [] pos) (iEnum' tr) := by
  refine pi_wimp (pi_enumA hg hm ha hs) fun σ H R0 ⟨ρ, env, S, R, P⟩ => ?_
  refine liftA.bindI R P fun ρ1 ws S1 us H1 st R1 r1 P1 => ?_
  split at P1
  · split at P1
    · rename_i xs hx
      obtain ⟨v, rfl, r2⟩ := repAll1 r1
      obtain ⟨a, rfl, k⟩ := wk_of R1.s r2 hx
      cases k with
      | tup vs hq q =>
        refine ⟨a, vs, rfl, .inr ⟨hq, P1 ρ1 _ H1 (Step.refl _ _) R1 fun ρ2 H2 S2 st2 R2 _ i => ⟨fun w hw => ?_, fun hl => ?_⟩⟩⟩
        · obtain ⟨u, hu, rfl⟩ := enumL_get hw
          obtain ⟨x, h1, h2⟩ := q.get hu
          refine ⟨⟨vs, x, st2.mon.sqT hq, h1⟩, fun y H3 ⟨T, x', e1, hT, e2, e3⟩ => ?_⟩
          subst e1; subst e2
          have := e3 vs (st2.mon.sqT hq)
          rw [h1] at this; cases this
          exact pair_step R2 hT (.int _) (h2.mono st2)
        · exact ⟨vs, st2.mon.sqT hq, by rw [q.length]; rw [enumL_length] at hl; exact hl⟩
      | lst vs hq k =>
        refine ⟨a, vs, rfl, .inl ⟨hq, P1 ρ1 _ H1 (Step.refl _ _) R1 fun ρ2 H2 S2 st2 R2 hg i => ?_⟩⟩
        obtain ⟨vs2, hq2, q2⟩ := k ρ2 H2 S2 st2 R2 hg
        refine ⟨fun w hw => ?_, fun hl => ⟨vs2, hq2, by rw [q2.length]; rw [enumL_length] at hl; exact Nat.le_of_eq hl⟩⟩
        obtain ⟨u, hu, rfl⟩ := enumL_get hw
        obtain ⟨x, h1, h2⟩ := q2.get hu
        refine ⟨⟨vs2, x, hq2, h1⟩, fun y H3 ⟨T, x', e1, hT, e2, e3⟩ => ?_⟩
        subst e1; subst e2
        have := e3 vs2 hq2
        rw [h1] at this; cases this
        exact pair_step R2 hT (.int _) h2
    · exact P1.elim
  · exact P1.elim
/-- zip of two lists, of two tuples -/
def zipL (xs ys : List W) : List W := List.zipWith (fun x y => W.tup [x, y]) xs ys
def gd2 (a b : W) (S : Store) : Option Gd := match guardOf a S, guardOf b S with
  | none, g => some g
  | g, none => some g
  | _, _ => none
def iZip (a : Av) : Iv := fun env S => (a env S).bind fun ws S1 => match ws with
  | [.tup xs, .tup ys] => .ok (zipL xs ys, none) S1
  | [v, w] => (match seqR v S1, seqR w S1, gd2 v w S1 with
    | some xs, some ys, some g => .ok (zipL xs ys, g) S1
    | _, _, _ => .bad)
  | _ => .bad
theorem range_get {lo hi : Int} {i : Nat} {w : W} (h : (rangeL lo hi)[i]? = some w) : i < (hi - lo).toNat ∧ w = .int (lo + (i : Int)) := by
  unfold rangeL at h
  rw [List.getElem?_map] at h
  cases q : (List.range (hi - lo).toNat)[i]? with
  | none => rw [q] at h; cases h
  | some j =>
    rw [q] at h
    have h1 := List.getElem?_eq_some_iff.mp q
    obtain ⟨h2, h3⟩ := h1
    simp at h2 h3
    subst h3
    exact ⟨by simpa using h2, by simpa using h.symm⟩
theorem rangeL_length (lo hi : Int) : (rangeL lo hi).length = (hi - lo).toNat := by unfold rangeL; simp
/-- the numbers of a range, walked -/
theorem walk_range {g : G} {ρ : List Addr} {H : Hp} (lo hi : Int) : WalkW g (Itr lo (hi - lo).toNat) (rangeL lo hi) none ρ H := fun ρ2 H2 S2 st R _ i => by
  refine ⟨fun w hw => ?_, fun hl => ?_⟩
  · obtain ⟨h1, rfl⟩ := range_get hw
    refine ⟨h1, fun y H3 z => ?_⟩
    obtain ⟨e1, e2⟩ := z
    subst e1; subst e2
    exact ⟨Step.refl _ _, R, .int _⟩
  · rw [rangeL_length] at hl
    show (hi - lo).toNat ≤ i
    omega
theorem iw_range1 {p : Pos} (hg : Gl X "range") (hm : X.mg "range" = none) (ha : AW X cm xw [a] tr) (hs : starEach [a] X.env = [(false, eval a X.env)] := by rfl) :
    IW X cm xw tgt (.Call (.Name "range" p) [a] [] pos) (iRange1 tr) := by
  refine pi_wimp (pi_range1 hg hm ha hs) fun σ H R0 ⟨ρ, env, S, R, P⟩ => ?_
  refine liftA.bindI R P fun ρ1 ws S1 vs H1 st R1 r1 P1 => ?_
  have hl := r1.length
  split at P1
  · obtain ⟨v, rfl, r⟩ := repAll1 r1
    cases r
    split at P1
    · rename_i n h
      exact ⟨n, rfl, h.1, h.2, P1 ρ1 _ H1 (Step.refl _ _) R1 (by
        have := walk_range (g := ⟨X.K, cm⟩) (ρ := ρ1) (H := H1) 0 n
        rw [Int.sub_zero] at this; exact this)⟩
    · exact P1.elim
  · exact P1.elim
theorem iw_range2 {p : Pos} (hg : Gl X "range") (hm : X.mg "range" = none) (ha : AW X cm xw [a, b] tr) (hs : starEach [a, b] X.env = [(false, eval a X.env), (false, eval b X.env)] := by rfl) (hs2 : starEach [b] X.env = [(false, eval b X.env)] := by rfl) :
    IW X cm xw tgt (.Call (.Name "range" p) [a, b] [] pos) (iRange2 tr) := by
  refine pi_wimp (pi_range2 hg hm ha hs hs2) fun σ H R0 ⟨ρ, env, S, R, P⟩ => ?_
  refine liftA.bindI R P fun ρ1 ws S1 vs H1 st R1 r1 P1 => ?_
  split at P1
  · obtain ⟨v, v', rfl, r, r'⟩ := repAll2 r1
    cases r; cases r'
    split at P1
    · rename_i lo hi h
      exact ⟨lo, hi, rfl, h, P1 ρ1 _ H1 (Step.refl _ _) R1 (walk_range lo hi)⟩
    · exact P1.elim
  · exact P1.elim
end

end HW
namespace HW
open PySem L2
open PyProof.Rows hiding St
/-! ### what a def does -/
def FPost (g : G) (ρ : List Addr) (H : Hp) (Q : VK) (E : XK) : Res W → Prop
  | .ok w S' => ∀ ρ' v H', Step ρ H ρ' H' → RelS g ρ' S' H' → Rep g.K ρ' H' v w → Q v H'
  | .exn c fs S' => ∀ ρ' d H', Step ρ H ρ' H' → RelS g ρ' S' H' → XDict g ρ' H' d fs → E (.ref (g.cm c)) d H'
  | .bad => False
def spFv (g : G) (f : Fv) : Sp := fun vs H Q E => ∃ ρ S ws, RelS g ρ S H ∧ RepAll g.K ρ H vs ws ∧ FPost g ρ H Q E (f ws S)
section
variable {K : PySem.W.Frag} {ρ ρ' : List Addr} {H H' : Hp} {k : Nat}
mutual
theorem Rep.clo : ∀ (w : W) (v : V), Rep K ρ H v w → w.clo k = true → Rep K (ρ.take k) H v w
  | _, _, .non, _ => .non
  | _, _, .bl b, _ => .bl b
  | _, _, .int i, _ => .int i
  | _, _, .str x, _ => .str x
  | _, _, .tup h r, q => .tup h (RepAll.clo _ _ r q)
  | _, _, .lst h r, q => .lst h (RepAll.clo _ _ r q)
  | _, _, .xls h r, q => .xls h (RepAll.clo _ _ r q)
  | .ref n, _, .ref h, q => .ref (by
      have q' : decide (n < k) = true := q
      rw [List.getElem?_take_of_lt (by simpa using q')]; exact h)
theorem RepAll.clo : ∀ (ws : List W) (vs : List V), RepAll K ρ H vs ws → W.cloL k ws = true → RepAll K (ρ.take k) H vs ws
  | _, _, .nil, _ => .nil
  | w :: ws, _, .cons h r, q => by
    have q' : (w.clo k && W.cloL k ws) = true := q
    rw [Bool.and_eq_true] at q'
    exact .cons (Rep.clo _ _ h q'.1) (RepAll.clo _ _ r q'.2)
end
theorem RepF.clo {κ : Type} {vs : List (κ × V)} {ws : List (κ × W)} (r : RepF K ρ H vs ws) (q : cloF k ws = true) : RepF K (ρ.take k) H vs ws := by
  induction r with
  | nil => exact .nil
  | @cons kk v w vs ws h r ih =>
    have q' : (w.clo k && cloF k ws) = true := q
    rw [Bool.and_eq_true] at q'
    exact .cons (Rep.clo _ _ h q'.1) (ih q'.2)
theorem RepO.clo {g : G} {a : Addr} {o : O} (r : RepO g ρ H a o) (q : o.clo k = true) : RepO g (ρ.take k) H a o := by
  cases o with
  | lst ws => obtain ⟨vs, h, z⟩ := r; exact ⟨vs, h, RepAll.clo _ _ z q⟩
  | dK ws => obtain ⟨vs, h, z⟩ := r; exact ⟨vs, h, z.clo q⟩
  | dN ws => exact r.elim
  | ins c fs => obtain ⟨dx, vs, h, z⟩ := r; exact ⟨dx, vs, h, z.clo q⟩
  | dead => exact r
theorem RelS.clo {g : G} {T J : Store} (r : RelS g ρ (T ++ J) H) (q : closedS T = true) : RelS g (ρ.take T.length) T H where
  tb := r.tb
  len := by rw [List.length_take, r.len, List.length_append]; omega
  nd := r.nd.sublist (List.take_sublist _ _)
  obj := fun n o e => by
    have hn : n < T.length := (List.getElem?_eq_some_iff.mp e).1
    obtain ⟨a, h1, h2⟩ := r.obj n o (by rw [List.getElem?_append_left hn]; exact e)
    refine ⟨a, by rw [List.getElem?_take_of_lt hn]; exact h1, h2.clo ?_⟩
    unfold closedS at q
    rw [List.all_eq_true] at q
    exact q o (List.mem_of_getElem? e)
theorem Step.clo {n : Nat} (st : Step ρ H ρ' H') (h : ρ.length ≤ n) : Step ρ H (ρ'.take n) H' where
  pre := by
    obtain ⟨t, rfl⟩ := st.pre
    rw [List.take_append, List.take_of_length_le h]
    exact List.prefix_append _ _
  fresh := fun a m => st.fresh a (List.mem_of_mem_take m)
  keep := st.keep
  tups := st.tups
  frzs := st.frzs
theorem FPost.tells {g : G} {S : Store} {Q : VK} {E : XK} {r r' : Res W} (R : RelS g ρ S H) (t : Tells r r' S) (P : FPost g ρ H Q E r') : FPost g ρ H Q E r := by
  cases r' with
  | bad => exact P.elim
  | ok w T =>
    obtain ⟨J, rfl, h⟩ := t
    intro ρ2 v H2 st R2 r2
    rcases h with rfl | ⟨h1, h2, h3⟩
    · rw [List.append_nil] at R2
      exact P ρ2 v H2 st R2 r2
    · exact P _ v H2 (st.clo (by rw [R.len]; exact h1)) (R2.clo h3) (Rep.clo _ _ r2 h2)
  | exn c fs T =>
    obtain ⟨J, rfl, h⟩ := t
    intro ρ2 d H2 st R2 x2
    rcases h with rfl | ⟨h1, h2, h3⟩
    · rw [List.append_nil] at R2
      exact P ρ2 d H2 st R2 x2
    · obtain ⟨dd, vs, e1, e2, e4, e3⟩ := x2
      exact P _ d H2 (st.clo (by rw [R.len]; exact h1)) (R2.clo h3) ⟨dd, vs, e1, e2, fun m => e4 (List.mem_of_mem_take m), e3.clo h2⟩
end
theorem sp_impl {g : G} {f f' : Fv} (i : Impl f f') (vs : List V) (H : Hp) (Q : VK) (E : XK) (h : spFv g f' vs H Q E) : spFv g f vs H Q E := by
  obtain ⟨ρ, S, ws, R, r, P⟩ := h
  exact ⟨ρ, S, ws, R, r, P.tells R (i ws S)⟩
/-- the top's own: names, places, classes -/
structure Top where
  P : Program
  w : World
  K : PySem.W.Frag
  mg : Str → Option Value
  base : Heap
  cm : CM
abbrev Top.g (T : Top) : G := ⟨T.K, T.cm⟩
/-- the context of a def's body -/
abbrev Top.cx (T : Top) (N : List Str) (qual : Str) (sc : Scope) (f : Addr) (cdv : Value) (A : Around) (outer : List PySem.Env) (s : Shared) (H : Hp) (E : XK) : Cx := cxOf (L2.CX T.P T.w) T.P T.w T.K T.mg T.base N qual sc f cdv A outer s H E
abbrev xwE (E : XK) : WX := fun c d _ H => E c d H
/-- the def of the name x, what it does is f -/
structure Def (T : Top) (x : Str) (k : Nat) (fv : Fv) : Prop where
  ex : ∃ f fd ps, FnOk T.P T.w T.K T.mg T.base (L2.CX T.P T.w) k f fd ps (spFv T.g fv) ∧ T.mg x = some (.ref f) ∧ PySem.W.keepIn T.K (.ref f) = true ∧ Binds T.K fd ps []
theorem Def.mono {T : Top} {x : Str} {j k : Nat} {fv : Fv} (D : Def T x j fv) (h : j ≤ k) : Def T x k fv := by
  obtain ⟨f, fd, ps, F, a, b, c⟩ := D.ex
  exact ⟨f, fd, ps, F.mono h, a, b, c⟩
/-- a body -/
abbrev Body (T : Top) (N : List Str) (qual : Str) (st : Stmt) (k : Nat) (sv : Sv) : Prop :=
  ∀ (f : Addr) (cdv : Value) (A : Around) (outer : List PySem.Env) (s : Shared) (H : Hp) (E : XK), Room k (A.deeper (envOfC qual (defScope st) s.heap.objs.size f cdv)) → SWs (T.cx N qual (defScope st) f cdv A outer s H E) T.cm (xwE E) (defBody st) sv
theorem envS_len {n N : Nat} {ws : List W} (h : ws.length = n) (hN : n ≤ N) : (ws.map some ++ List.replicate (N - n) (none : Option W)).length = N := by simp; omega
theorem relE_start {g : G} {ρ : List Addr} {H : Hp} {N : List Str} {vs : List V} {ws : List W} (r : RepAll g.K ρ H vs ws) : RelE g ρ (ws.map some ++ List.replicate (N.length - ws.length) none) (L2.start N vs) H where
  len := by unfold L2.start; simp [r.length]
  get := fun i w e => by
    unfold L2.start
    by_cases hi : i < ws.length
    · rw [List.getElem?_append_left (by simpa using hi), List.getElem?_map] at e
      rw [List.getElem?_append_left (by simpa [r.length] using hi), List.getElem?_map]
      cases q : ws[i]? with
      | none => rw [q] at e; cases e
      | some u =>
        rw [q] at e; cases e
        obtain ⟨v, h1, h2⟩ := r.get q
        exact ⟨v, by rw [h1]; rfl, h2⟩
    · rw [List.getElem?_append_right (by simpa using Nat.le_of_not_lt hi)] at e
      have := List.mem_of_getElem? e
      have := List.eq_of_mem_replicate this
      cases this
theorem fn_run {T : Top} {x qual : Str} {st : Stmt} {f : Addr} {fd : FuncData} {N ps : List Str} {k : Nat} {sv : Sv} {fv : Fv} (F : Fun T.K x qual st f fd) (S : FnScope N ps (defScope st)) (hb : Body T N qual st k sv) (im : Impl (runBody ps.length N.length sv) fv) :
    FnOk T.P T.w T.K T.mg T.base (L2.CX T.P T.w) (k + 1) f fd ps (spFv T.g fv) := by
  refine FnOk.imp ?_ (sp_impl im)
  refine F.okX S (fun vs H Q E ⟨ρ, St, ws, R, r, P⟩ => ?_) fun cdv A outer s H vs Q E hr h => ⟨_, hb f cdv A outer s H E hr, ?_⟩
  · rw [r.length]
    unfold runBody at P
    split at P
    · assumption
    · exact P.elim
  obtain ⟨ρ, St, ws, R, r, P⟩ := h
  unfold runBody at P
  by_cases hw : ws.length = ps.length
  rotate_left
  · rw [if_neg hw] at P; exact P.elim
  rw [if_pos hw, ← hw] at P
  refine ⟨ρ, _, St, ⟨R, relE_start r⟩, ?_⟩
  revert P
  cases sv (ws.map some ++ List.replicate (N.length - ws.length) none) St with
  | nx e S1 => intro P ρ2 σ2 H2 st R2; exact P ρ2 .non H2 st R2.s .non
  | rt w S1 => intro P; exact P
  | bk e S1 => intro P; exact P.elim
  | ct e S1 => intro P; exact P.elim
  | exn c fs e S1 => intro P ρ2 σ2 d H2 st R2 x2; exact P ρ2 d H2 st R2.s x2
  | bad => intro P; exact P.elim
theorem def_mk {T : Top} {x qual : Str} {st : Stmt} {f : Addr} {fd : FuncData} {N ps : List Str} {k : Nat} {sv : Sv} {fv : Fv} (F : Fun T.K x qual st f fd) (S : FnScope N ps (defScope st)) (hm : T.mg x = some (.ref f)) (b : Binds T.K fd ps [])
    (hb : Body T N qual st k sv) (im : Impl (runBody ps.length N.length sv) fv) : Def T x (k + 1) fv := ⟨f, fd, ps, fn_run F S hb im, hm, F.kp, b⟩
section
variable {X : Cx} {cm : CM} {xw : WX} {pos : Pos} {a b : Expr} {es : List Expr} {ta tb : Ev} {te : Ev} {tr : Av} {x : Str} {k : Nat} {fv : Fv} {p : Pos}
/-- the top as a context knows it -/
abbrev topOf (X : Cx) (cm : CM) : Top := ⟨X.prog, X.w, X.K, X.mg, X.base, cm⟩
theorem EPost.fn {g : G} {ρ : List Addr} {env : Env} {σ : St} {S : Store} {H : Hp} {Q : VK} {r : Res W} (R : Rel g ρ S env σ H) (P : EPost g xw ρ env σ H Q r) : FPost g ρ H Q (WE xw σ) r := by
  cases r with
  | ok w S' => exact fun ρ2 v H2 st R2 r2 => P ρ2 v H2 st (R.step st R2) r2
  | exn c fs S' => exact fun ρ2 d H2 st R2 x2 => P ρ2 d H2 st (R.step st R2) x2
  | bad => exact P
def eFn (fv : Fv) (a : Av) : Ev := fun env S => (a env S).bind fun ws S1 => fv ws S1
theorem ew_fn (D : Def (topOf X cm) x k fv) (tk : Takes X xw) (hr : Room k X.A) (hg : Gl X x) (ha : AW X cm xw (a :: es) tr) (hdb : (x == ("__debug__" : Str)) = false := by decide)
    (he : starEach (a :: es) X.env = (false, eval a X.env) :: starEach es X.env := by rfl) (hpl : (backTo pos (starEach es X.env)).any (·.1) = false := by rfl) :
    EW X cm xw (.Call (.Name x p) (a :: es) [] pos) (eFn fv tr) := by
  obtain ⟨f, fd, ps, F, hm, hk, hb⟩ := D.ex
  refine PE.wimp (pe_callSD (dvs := []) (ds := []) (E := WE xw) F hr hg hm hk hb .nil (fun σ => passAt tk σ) ha hdb he hpl) fun σ H Q ⟨ρ, env, S, R, P⟩ => ?_
  refine liftA.bind R P fun ρ1 ws S1 vs H1 st R1 r1 P1 => ?_
  show spFv ⟨X.K, cm⟩ fv (vs ++ []) H1 Q (WE xw σ)
  rw [List.append_nil]
  exact ⟨ρ1, S1, ws, R1.s, r1, P1.fn R1⟩
theorem ew_fn0 (D : Def (topOf X cm) x k fv) (tk : Takes X xw) (hr : Room k X.A) (hg : Gl X x) (hdb : (x == ("__debug__" : Str)) = false := by decide) :
    EW X cm xw (.Call (.Name x p) [] [] pos) (eFn fv aNil) := by
  obtain ⟨f, fd, ps, F, hm, hk, hb⟩ := D.ex
  refine PE.mk fun pins s σ H Q I ⟨ρ, env, S, R, P⟩ => ?_
  have P1 : FPost ⟨X.K, cm⟩ ρ H Q (WE xw σ) (fv [] S) := EPost.fn R P
  refine wpAny_Call_Name_kw (ld_glob I hg hm ?_ hdb)
  exact PySem.W.callWith_K0 I.kIn hk (run_fnSD (us := []) (ds := []) (dvs := []) F hr hb .nil (passAt tk σ) I .nil ⟨ρ, S, [], R.s, .nil, P1⟩)
end
end HW
namespace HW
open PySem L2
open PyProof.Rows hiding St
section
variable {X : Cx} {cm : CM} {xw : WX} {pos : Pos} {a b o i e : Expr} {es : List Expr} {ta tb te to ti : Ev} {tr : Av} {x : Str} {n k : Nat} {p : Pos}
/-! ### freezing -/
theorem Step.freeze {ρ : List Addr} {H : Hp} {p : Addr} {ob : Obj} {xs : List V} (m : p ∈ ρ) (h : H p = some (.lst xs)) : Step ρ H ρ (upd H p (.frz ob (.lst xs))) := Step.write m h trivial
theorem ew_fz (he : EW X cm xw e te) : EW X cm xw e (eFz te) := by
  refine (pe_fz he).wimp fun σ H Q ⟨ρ, env, S, R, P⟩ => ?_
  refine liftE.bind R P fun ρ1 w S1 v H1 st R1 r1 P1 => ?_
  unfold freezeW at P1
  split at P1
  · split at P1
    · rename_i n xs hx
      obtain ⟨a, h1, vs, h2, h3⟩ := R1.s.obj _ _ hx
      cases r1 with
      | ref h =>
        rw [h1] at h; cases h
        refine ⟨a, vs, rfl, h2, fun ob => ?_⟩
        have st2 : Step ρ1 H1 ρ1 (upd H1 a (.frz ob (.lst vs))) := Step.freeze (List.mem_of_getElem? h1) h2
        exact P1 ρ1 _ _ st2 (R1.step st2 (R1.s.write h1 h2 trivial ⟨_, _, upd_same⟩)) (.lst ⟨ob, upd_same⟩ (h3.mono st2))
    · exact P1.elim
  · exact P1.elim
/-- what is never come to -/
theorem sw_bad {st : Stmt} : SW X cm xw st sBad := ⟨fun pins s σ H D I ⟨_, _, _, _, P⟩ => P.elim⟩

/-! ### methods of built-in types -/
def liftM (g : G) (f : W → Bv) : V → List V → Hp → VK → Prop := fun x xs H Q => ∃ ρ S w ws, RelS g ρ S H ∧ Rep g.K ρ H x w ∧ RepAll g.K ρ H xs ws ∧ OPost g ρ H Q (f w ws S)
structure MtW (X : Cx) (cm : CM) (id : String) (f : W → Bv) : Prop where
  run : MtR X id (liftM ⟨X.K, cm⟩ f)
  quiet : ∀ x y S, Quiet (f x y S)
/-- the value is of the type -/
structure TyW (T : String) (t : W → Store → Bool) : Prop where
  run : ∀ (g : G) (ρ : List Addr) (S : Store) (H : Hp) (x : V) (w : W), RelS g ρ S H → Rep g.K ρ H x w → t w S = true → tyV g.K T x H
def isListB (w : W) (S : Store) : Bool := (seqL w S).isSome
theorem tyw_list : TyW "list" isListB := ⟨fun g ρ S H x w R r h => by
  unfold isListB at h
  rw [Option.isSome_iff_exists] at h
  obtain ⟨xs, e⟩ := h
  obtain ⟨a, vs, rfl, h2, h3⟩ := seqL_rep R r e
  exact .inl ⟨rfl, vs, .inl h2⟩⟩
def eMt (t : W → Store → Bool) (f : W → Bv) (o : Ev) (a : Av) : Ev := fun env S => (o env S).bind fun x S1 => if t x S1 = true then (a env S1).bind fun ws S2 => f x ws S2 else .bad
theorem ew_mt {T : String} {t : W → Store → Bool} {name : Str} {id : String} {f : W → Bv} {apos cpos : Pos} (ty : TyW T t) (hm : MtW X cm id f) (ho : EW X cm xw o to) (ha : AW X cm xw (e :: es) tr) (pa : PlainAttrs T) (slot : Slot T name id) (hty : typeOf (.builtin id) = pure (.type "method_descriptor"))
    (hbase : attributeBase o name X.env (eval o X.env) = eval o X.env := by rfl)
    (hfew : ((backTo cpos (starEach (e :: es) X.env)).all (fun x => !x.1) && (backToKw cpos (keywordEach [] X.env)).all (fun x => x.1.isSome)
      && decide ((e :: es).length + ([] : List Keyword).length + (if ([] : List Keyword).isEmpty then 0 else 1) < 30)) = true := by rfl)
    (hline : (apos.endLine == cpos.line) = true := by rfl) (hs : starEach (e :: es) X.env = (false, eval e X.env) :: starEach es X.env := by rfl) (hplain : (backTo cpos (starEach es X.env)).any (·.1) = false := by rfl) :
    EW X cm xw (.Call (.Attribute o name apos) (e :: es) [] cpos) (eMt t f to tr) := by
  refine (pe_bm pa slot hty hm.run ho ha hbase hfew hline hs hplain).wimp fun σ H Q ⟨ρ, env, S, R, P⟩ => ?_
  refine liftE.bind R P fun ρ1 w S1 v H1 st R1 r1 P1 => ?_
  split at P1
  · rename_i h
    refine ⟨ty.run ⟨X.K, cm⟩ _ _ _ _ _ R1.s r1 h, ?_⟩
    refine liftA.bind R1 P1 fun ρ2 ws S2 vs H2 st2 R2 r2 P2 => ?_
    exact ⟨ρ2, S2, w, ws, R2.s, r1.mono st2, r2, P2.op R2 (hm.quiet _ _ _)⟩
  · exact P1.elim
theorem ew_mt0 {T : String} {t : W → Store → Bool} {name : Str} {id : String} {f : W → Bv} {apos cpos : Pos} (ty : TyW T t) (hm : MtW X cm id f) (ho : EW X cm xw o to) (pa : PlainAttrs T) (slot : Slot T name id) (hty : typeOf (.builtin id) = pure (.type "method_descriptor"))
    (hbase : attributeBase o name X.env (eval o X.env) = eval o X.env := by rfl) (hline : (apos.endLine == cpos.line) = true := by rfl) :
    EW X cm xw (.Call (.Attribute o name apos) [] [] cpos) (eMt t f to aNil) := by
  refine (pe_bm0 pa slot hty hm.run ho hbase hline).wimp fun σ H Q ⟨ρ, env, S, R, P⟩ => ?_
  refine liftE.bind R P fun ρ1 w S1 v H1 st R1 r1 P1 => ?_
  split at P1
  · rename_i h
    exact ⟨ty.run ⟨X.K, cm⟩ _ _ _ _ _ R1.s r1 h, ρ1, S1, w, [], R1.s, r1, .nil, EPost.op R1 (hm.quiet _ _ _) P1⟩
  · exact P1.elim
/-! the list of the store changes -/
theorem write_lst {g : G} {ρ : List Addr} {S : Store} {H : Hp} {n : Nat} {ws ws' : List W} {x : V} (R : RelS g ρ S H) (h : S[n]? = some (.lst ws)) (r : Rep g.K ρ H x (.ref n)) :
    ∃ (a : Addr) (vs : List V), x = .ref a ∧ H a = some (.lst vs) ∧ RepAll g.K ρ H vs ws ∧ ∀ vs' : List V, RepAll g.K ρ H vs' ws' → Step ρ H ρ (upd H a (.lst vs')) ∧ RelS g ρ (S.set n (.lst ws')) (upd H a (.lst vs')) := by
  obtain ⟨a, h1, vs, h2, h3⟩ := R.obj _ _ h
  cases r with
  | ref q =>
    rw [h1] at q; cases q
    refine ⟨a, vs, rfl, h2, h3, fun vs' r' => ?_⟩
    have st : Step ρ H ρ (upd H a (.lst vs')) := Step.write (List.mem_of_getElem? h1) h2 trivial
    exact ⟨st, R.write h1 h2 trivial ⟨vs', upd_same, r'.mono st⟩⟩
def appW : W → Bv := fun x ws S => match x, ws with
  | .ref n, [y] => (match S[n]? with
    | some (.lst xs) => if xs.length < LIM then .ok .non (S.set n (.lst (xs ++ [y]))) else .bad
    | _ => .bad)
  | _, _ => .bad
theorem lt_line {n : Nat} (h : n < LIM) : n < sizeLine := Nat.lt_of_lt_of_le h (by rw [sizeLine_eq]; decide)
theorem mw_append : MtW X cm "list.append" appW where
  run := fun pins s σ H x xs v us Q I rx rv ⟨ρ, S, w, ws, R, r1, r2, P⟩ => by
    unfold appW at P
    split at P
    · split at P
      · split at P
        · rename_i n y _ xs' hx hl
          obtain ⟨a, vs, rfl, h2, h3, h4⟩ := write_lst (ws' := xs' ++ [y]) R hx r1
          obtain ⟨u, rfl, ru⟩ := repAll1 r2
          obtain ⟨st, R'⟩ := h4 (vs ++ [u]) (h3.append (.cons ru .nil))
          exact mt_append pins s σ H _ _ v us Q I rx rv ⟨a, vs, u, rfl, rfl, h2, by rw [h3.length]; exact lt_line hl, P ρ _ _ st R' .non⟩
        · exact P.elim
      · exact P.elim
    · exact P.elim
  quiet := fun x y S c fs S' z => by
    unfold appW at z
    split at z
    · split at z
      · split at z <;> cases z
      · cases z
    · cases z

/-! ### o[i] = v -/
abbrev Pv := W → W → W → Store → Option Store
structure PutW (X : Cx) (cm : CM) (f : Pv) : Prop where
  run : PSet X (fun o i v H Q => ∃ ρ S w1 w2 w3 S', RelS ⟨X.K, cm⟩ ρ S H ∧ Rep X.K ρ H o w1 ∧ Rep X.K ρ H i w2 ∧ Rep X.K ρ H v w3 ∧ f w1 w2 w3 S = some S' ∧ ∀ H', Step ρ H ρ H' → RelS ⟨X.K, cm⟩ ρ S' H' → Q H')
def sPut (f : Pv) (e o i : Ev) : Sv := fun env S => (e env S).toS env fun v S1 => (o env S1).toS env fun x S2 => (i env S2).toS env fun k S3 => match f x k v S3 with
  | some S4 => .nx env S4
  | none => .bad
theorem sw_put {f : Pv} {ps : Pos} (hf : PutW X cm f) (he : EW X cm xw e te) (ho : EW X cm xw o to) (hi : EW X cm xw i ti)
    (ha : ∀ v, assign (.Subscript o i ps) X.env v = (do
      let ov ← holding [v] (eval o X.env)
      let iv ← holding [v, ov] (eval i X.env)
      standAt ps
      holding [v, ov, iv] (setItem ov iv v)
      release [v, ov, iv] []) := by intro _; rfl)
    (hs : swapsWithSole [.Subscript o i ps] e pos.line X.env = pure false := by rfl) (hw : swappedStores [.Subscript o i ps] e X.env = pure none := by rfl)
    (h1 : (assignEach [.Subscript o i ps] X.env).map (·.2) = [assign (.Subscript o i ps) X.env] := by rfl) :
    SW X cm xw (.Assign [.Subscript o i ps] e pos) (sPut f te to ti) := by
  refine (ps_asg he (pg_sub ho hi hf.run ha) hs hw h1).wimp fun D σ H ⟨ρ, env, S, R, P⟩ => ?_
  refine liftE.toS R P fun ρ1 w S1 v H1 st R1 r1 P1 => ?_
  refine liftE.toS R1 P1 fun ρ2 w2 S2 v2 H2 st2 R2 r2 P2 => ?_
  refine liftE.toS R2 P2 fun ρ3 w3 S3 v3 H3 st3 R3 r3 P3 => ?_
  split at P3
  · rename_i S4 h
    exact ⟨ρ3, S3, w2, w3, w, S4, R3.s, r2.mono st3, r3, (r1.mono st2).mono st3, h, fun H' st' R' => P3 ρ3 σ H' st' (R3.step st' R')⟩
  · exact P3.elim
def putL : Pv := fun x i v S => match x, i with
  | .ref n, .int k => (match S[n]? with
    | some (.lst xs) => (HW.ixN xs.length k).map fun j => S.set n (.lst (xs.set j v))
    | _ => none)
  | _, _ => none
theorem pw_list : PutW X cm putL where
  run := fun pins s σ H o i v ov iv u Q I ro ri rv ⟨ρ, S, w1, w2, w3, S', R, r1, r2, r3, e, P⟩ => by
    unfold putL at e
    split at e
    · split at e
      · rename_i n k _ xs hx
        obtain ⟨j, hj, rfl⟩ := Option.map_eq_some_iff.mp e
        obtain ⟨a, vs, rfl, h2, h3, h4⟩ := write_lst (ws' := xs.set j w3) R hx r1
        cases r2
        obtain ⟨st, R'⟩ := h4 (vs.set j v) (h3.set r3 j)
        exact set_list pins s σ H _ _ v ov iv u Q I ro ri rv ⟨a, vs, k, j, rfl, rfl, h2, by rw [h3.length]; exact hj, P _ st R'⟩
      · cases e
    · cases e
end
end HW
namespace HW
open PySem L2
open PyProof.Rows hiding St
/-! ### repr -/
def shownW (x : W) (S : Store) : Option Str := if (deref x S).okD DEEP = true ∧ (deref x S).data.showable = true ∧ (deref x S).data.shown.length ≤ LIM then some (deref x S).data.shown else none
def reprW : Bv := fun ws S => match ws with
  | [x] => (match shownW x S with
    | some z => .ok (.str z) S
    | none => .bad)
  | _ => .bad
section
variable {X : Cx} {cm : CM} {xw : WX}
theorem okD_canLay {w : W} (h : w.okD DEEP = true) : w.data.canLay0 = true ∧ w.data.depth ≤ 40 := okD_lay _ w h
theorem cw_repr (hgd : X.A.guards = some []) (hu : X.A.units + 65 < cLine) : CallW X cm (.builtin "repr") reprW where
  run := fun pins s σ H vs us Q I rv ⟨ρ, S, ws, R, r, P⟩ => by
    unfold reprW at P
    split at P
    · split at P
      · rename_i x _ z hz
        unfold shownW at hz
        split at hz
        · rename_i h
          cases hz
          obtain ⟨h1, h2, h3⟩ := h
          obtain ⟨v, rfl, r1⟩ := repAll1 r
          cases rv with
          | cons ru rn =>
            cases rn
            rename_i u
            have dp := deref_rep R r1 h1
            obtain ⟨as, rd⟩ := Dp.reads I _ _ _ dp ru
            obtain ⟨c1, c2⟩ := okD_canLay h1
            have fin : ∀ (h' : Heap) (t : Tok) (tk : Nat), (∀ b o, s.heap.get? b = some o → h'.get? b = some o) → EP X pins σ Q (.str (deref x S).data.shown t) { s with heap := h', toks := tk } := fun h' t tk hk =>
              ⟨.str _, H, I.kept hk, ⟨t, rfl⟩, P ρ _ H (Step.refl _ _) R (.str _)⟩
            have hnd := PyData.noDict_hsm (as := as) (PyData.hasDict_of_canLay _ c1)
            clear P r1 h1
            generalize (deref x S).data = d at *
            cases v with
            | ref a =>
              cases ru
              exact repr_of_reads' rd h2 hnd hgd (by omega) (fun _ _ e => e) fin (lim_line h3)
            | non =>
              cases ru
              cases dp
              exact PySem.P.repr_of_none (fin s.heap _ _ fun _ _ e => e)
            | bl b =>
              cases ru
              cases dp
              exact PySem.P.repr_of_bool (fin s.heap _ _ fun _ _ e => e)
            | int i =>
              obtain ⟨t, rfl⟩ := ru
              cases dp
              exact PySem.P.repr_of_int (by simpa [PyData.showable] using h2) (by have := fin s.heap s.toks (s.toks + 1) fun _ _ e => e; simpa only [PyData.shown] using this)
            | str y =>
              obtain ⟨t, rfl⟩ := ru
              cases dp
              exact PySem.P.repr_of_str (by have := fin s.heap s.toks (s.toks + 1) fun _ _ e => e; simpa only [PyData.shown] using this) (by have := lim_line h3; simpa only [PyData.shown] using this)
            | _ => cases dp
        · cases hz
      · exact P.elim
    · exact P.elim
  quiet := fun ws S c fs S' z => by
    unfold reprW at z
    split at z
    · split at z <;> cases z
    · cases z
end
end HW
namespace HW
open PySem L2
open PyProof.Rows hiding St
/-! ### defs that show values: the shower's guards are none -/
structure FnG (T : Top) (k : Nat) (f : Addr) (fd : FuncData) (ps : List Str) (sp : Sp) : Prop where
  len : ∀ vs H Q E, sp vs H Q E → vs.length = ps.length
  run : ∀ (A : Around) (outer : List PySem.Env) (s : Shared) (H : Hp) (args : Args) (us : List Value) (vs : List V) (Q : VK) (E : XK), Room k A → A.guards = some [] → Env0 T.P T.w T.K T.mg T.base A outer s H → BindsTo s fd args (ps.zip us) → Vals vs us → sp vs H Q E →
    codeAny (model T.P T.w) A (.call (.ref f) args) (CR (L2.CX T.P T.w) outer T.P T.w H s Q E) s
structure DefG (T : Top) (x : Str) (k : Nat) (fv : Fv) : Prop where
  ex : ∃ f fd ps, FnG T k f fd ps (spFv T.g fv) ∧ T.mg x = some (.ref f) ∧ PySem.W.keepIn T.K (.ref f) = true ∧ Binds T.K fd ps []
theorem Def.toG {T : Top} {x : Str} {k : Nat} {fv : Fv} (D : Def T x k fv) : DefG T x k fv := by
  obtain ⟨f, fd, ps, F, a, b, c⟩ := D.ex
  exact ⟨f, fd, ps, ⟨F.len, fun A outer s H args us vs Q E hr _ => F.run A outer s H args us vs Q E hr⟩, a, b, c⟩
theorem DefG.mono {T : Top} {x : Str} {j k : Nat} {fv : Fv} (D : DefG T x j fv) (h : j ≤ k) : DefG T x k fv := by
  obtain ⟨f, fd, ps, F, a, b, c⟩ := D.ex
  exact ⟨f, fd, ps, ⟨F.len, fun A outer s H args us vs Q E hr => F.run A outer s H args us vs Q E (hr.mono h)⟩, a, b, c⟩
abbrev BodyG (T : Top) (N : List Str) (qual : Str) (st : Stmt) (k : Nat) (sv : Sv) : Prop :=
  ∀ (f : Addr) (cdv : Value) (A : Around) (outer : List PySem.Env) (s : Shared) (H : Hp) (E : XK), Room k (A.deeper (envOfC qual (defScope st) s.heap.objs.size f cdv)) → (A.deeper (envOfC qual (defScope st) s.heap.objs.size f cdv)).guards = some [] →
    SWs (T.cx N qual (defScope st) f cdv A outer s H E) T.cm (xwE E) (defBody st) sv
theorem deeper_guards (A : Around) (env : PySem.Env) : (A.deeper env).guards = A.guards := by first | rfl | simp [Around.deeper]
theorem fnG_run {T : Top} {x qual : Str} {st : Stmt} {f : Addr} {fd : FuncData} {N ps : List Str} {k : Nat} {sv : Sv} {fv : Fv} (F : Fun T.K x qual st f fd) (S : FnScope N ps (defScope st)) (hb : BodyG T N qual st k sv) (im : Impl (runBody ps.length N.length sv) fv) :
    FnG T (k + 1) f fd ps (spFv T.g fv) := by
  obtain ⟨oc, od, kV, doc, pm, an, cdv, ct, osl, rfl, lk, hcd⟩ := F.ex
  have hlen : ∀ vs H Q E, spFv T.g fv vs H Q E → vs.length = ps.length := fun vs H Q E h => by
    obtain ⟨ρ, St, ws, R, r, P⟩ := sp_impl im vs H Q E h
    rw [r.length]
    unfold runBody at P
    split at P
    · assumption
    · exact P.elim
  refine ⟨hlen, fun A outer s H args us vs Q E hr hgd e0 hbind rv hsp => ?_⟩
  refine LamX.run_ofS (N := N) lk hcd S hr e0 hbind rv (hlen _ _ _ _ hsp) fun hr' => ⟨_, hb f cdv A outer s H E hr' (by rw [deeper_guards]; exact hgd), ?_⟩
  obtain ⟨ρ, St, ws, R, r, P⟩ := sp_impl im vs H Q E hsp
  unfold runBody at P
  by_cases hw : ws.length = ps.length
  rotate_left
  · rw [if_neg hw] at P; exact P.elim
  rw [if_pos hw, ← hw] at P
  refine ⟨ρ, _, St, ⟨R, relE_start r⟩, ?_⟩
  revert P
  cases sv (ws.map some ++ List.replicate (N.length - ws.length) none) St with
  | nx e S1 => intro P ρ2 σ2 H2 st R2; exact P ρ2 .non H2 st R2.s .non
  | rt w S1 => intro P; exact P
  | bk e S1 => intro P; exact P.elim
  | ct e S1 => intro P; exact P.elim
  | exn c fs e S1 => intro P ρ2 σ2 d H2 st R2 x2; exact P ρ2 d H2 st R2.s x2
  | bad => intro P; exact P.elim
theorem defG_mk {T : Top} {x qual : Str} {st : Stmt} {f : Addr} {fd : FuncData} {N ps : List Str} {k : Nat} {sv : Sv} {fv : Fv} (F : Fun T.K x qual st f fd) (S : FnScope N ps (defScope st)) (hm : T.mg x = some (.ref f)) (b : Binds T.K fd ps [])
    (hb : BodyG T N qual st k sv) (im : Impl (runBody ps.length N.length sv) fv) : DefG T x (k + 1) fv := ⟨f, fd, ps, fnG_run F S hb im, hm, F.kp, b⟩
section
variable {X : Cx} {cm : CM} {xw : WX} {pos : Pos} {a b : Expr} {es : List Expr} {ta tb : Ev} {te : Ev} {tr : Av} {x : Str} {k : Nat} {fv : Fv} {p : Pos}
theorem run_fnG {pins : List (Addr × Obj)} {σ : L2.St} {H : Hp} {s : Shared} {Q : VK} {us : List Value} {vs : List V} {f : Addr} {fd : FuncData} {ps : List Str} {sp : Sp} {E : XK} (F : FnG (topOf X cm) k f fd ps sp) (hr : Room k X.A) (hgd : X.A.guards = some []) (hb : Binds X.K fd ps [])
    (hx : PassesAt (L2.CX X.prog X.w) X σ E) (I : Inv X pins σ H s) (r : Vals vs us) (h : sp vs H Q E) : wpAny (model X.prog X.w) X.A (call (.ref f) us) (EP X pins σ Q) X.xe s := by
  have b := hb s us I.kIn (by rw [List.append_nil, ← r.length]; exact F.len _ _ _ _ h)
  rw [List.append_nil] at b
  refine wpAny_call (codeAny_mono (F.run X.A X.stack s H ⟨us, []⟩ us vs Q E hr hgd I.env0 b r h) fun res s' hq => ?_)
  match res, hq with
  | .error e, hq => exact hx pins H s e s' I hq
  | .ok (.ret u), hq => exact I.after hq
  | .ok .next, hq => exact False.elim hq
  | .ok .brk, hq => exact False.elim hq
  | .ok .cont, hq => exact False.elim hq
theorem ew_fnG (D : DefG (topOf X cm) x k fv) (tk : Takes X xw) (hr : Room k X.A) (hgd : X.A.guards = some []) (hg : Gl X x) (ha : AW X cm xw (a :: es) tr) (hdb : (x == ("__debug__" : Str)) = false := by decide)
    (he : starEach (a :: es) X.env = (false, eval a X.env) :: starEach es X.env := by rfl) (hpl : (backTo pos (starEach es X.env)).any (·.1) = false := by rfl) :
    EW X cm xw (.Call (.Name x p) (a :: es) [] pos) (eFn fv tr) := by
  obtain ⟨f, fd, ps, F, hm, hk, hb⟩ := D.ex
  refine PE.mk fun pins s σ H Q I ⟨ρ, env, S, R, P⟩ => ?_
  refine wpAny_Call_Name_kw (ld_glob I hg hm ?_ hdb)
  have h0 : liftA ⟨X.K, cm⟩ xw tr σ H (fun vs H1 => spFv ⟨X.K, cm⟩ fv vs H1 Q (WE xw σ)) :=
    liftA.bind R P fun ρ1 ws S1 vs H1 st R1 r1 P1 => ⟨ρ1, S1, ws, R1.s, r1, P1.fn R1⟩
  refine PySem.W.callWith_K (h₀ := X.base) I.ok.mod.kin hk (thn (ha.run pos pins s σ H _ I h0) fun us s1 ⟨vs, H1, I1, r, q⟩ => ⟨I1.kIn, ?_⟩) he hpl
  exact run_fnG F hr hgd hb (passAt tk σ) I1 r q
end
end HW
namespace HW
open PySem L2
open PyProof.Rows hiding St
/-! ### own exceptions: made, raised -/
/-- the base of the program's own exceptions says: __init__ is ValueError's -/
structure ClsInit (K : PySem.W.Frag) (C : Addr) : Prop where
  sp : PySem.W.specialIn K (.ref C) "__getattribute__" = some (some (.builtin "type.__getattribute__"))
  rd : PySem.W.readsIn K C (.type "type") = true
  fd : PySem.W.findCls K (.ref C) (.type "type") "__init__" = some (.val (.builtin "ValueError.__init__"))
section
variable {X : Cx} {e : Expr} {es : List Expr} {ta : TA} {p1 p2 pos : Pos} {W : Str} {CW : Addr}
/-- W.__init__(self, ..) -/
theorem pe_winit {pl : Sem Bool} (hg : Gl X W) (hm : X.mg W = some (.ref CW)) (cl : ClsInit X.K CW) (ha : PA X (e :: es) ta)
    (hc : eval (.Call (.Attribute (.Name W p1) "__init__" p2) (e :: es) [] pos) X.env = (do
      let ov ← eval (.Name W p1) X.env
      standAt p2.atName
      let (f, first) ← holding [ov] (getMethod ov "__init__" pl)
      callWith pos f first (backTo pos (starEach (e :: es) X.env)) (backToKw pos (keywordEach [] X.env))) := by rfl)
    (he : starEach (e :: es) X.env = (false, eval e X.env) :: starEach es X.env := by rfl) (hpl : (backTo pos (starEach es X.env)).any (·.1) = false := by rfl) (hdb : (W == ("__debug__" : Str)) = false := by decide) :
    PE X (.Call (.Attribute (.Name W p1) "__init__" p2) (e :: es) [] pos) (tVeI X.K ta) := by
  refine ⟨fun pins s σ H Q I h => ?_⟩
  refine PySem.W.methodCall_KW (ld_glob I hg hm ?_ hdb) hc
  refine PySem.W.method_cls I.kIn cl.sp (PySem.W.cls_value I.kIn cl.rd cl.fd (by decide +kernel) ?_)
  show wpAny _ _ (callWith pos (Value.builtin "ValueError.__init__") [] (backTo pos (starEach (e :: es) X.env)) []) _ _ _
  refine PyProof.Rows.callWith_method1 (thn (ha.run pos pins _ σ H _ (I.tok _) h) fun us s1 ⟨vs, H1, I1, r1, a, C, ws, ev, hl, T, ea, q⟩ => ?_) he hpl
  subst ev
  cases r1 with
  | @cons _ u0 _ ur ra rw' =>
    obtain rfl : u0 = Value.ref a := ra
    have hlen : ur.length ≤ sizeLine := by
      rw [← Paired.length rw', sizeLine_eq]
      omega
    exact oinit_ok T I1 ea hlen fun s' J => ⟨.non, H1, J, rfl, q⟩
end
/-- what __init__ does to a fresh exception: its fields -/
def spI (K : PySem.W.Frag) (C : Addr) (fs : List Str) : Sp := fun vs H Q _ => ∃ (a : Addr) (ws : List V), vs = .ref a :: ws ∧ ws.length = fs.length ∧ OexC K C ∧ (∀ f ∈ fs, PySem.W.findIn K (.ref C) f = some none) ∧ H a = some (exo a C none) ∧
  ∀ dx, H dx = none → dx ≠ a → Q .non (upd (upd H dx (exd dx (fs.zip ws).reverse)) a (exo a C (some dx)))
section
variable {T : Top} {fI : Addr} {fd : FuncData} {st : Stmt} {qual W m f f2 : Str} {C CW : Addr} {p1 p2 p3 p4 p5 p6 p7 p8 p9 p10 p11 p12 p13 p14 : Pos} {j : Nat}
theorem init1_ok {pl : Sem Bool} (F : Fun T.K "__init__" qual st fI fd) (S : FnScope ["self", f] ["self", f] (defScope st)) (hW : T.mg ("WaitError" : Str) = some (.ref CW)) (cl : ClsInit T.K CW) (hg : (defScope st).names.lookup ("WaitError" : Str) = some .globalImplicit)
    (hb : defBody st = [.Expr (.Call (.Attribute (.Name "WaitError" p1) "__init__" p2) [.Name "self" p3, .Constant (.str m) j p4] [] p5) p6, .Assign [.Attribute (.Name "self" p7) f p8] (.Name f p9) p10])
    
    (hc : ∀ (n : Addr) (cdv : Value), eval (.Call (.Attribute (.Name "WaitError" p1) "__init__" p2) [.Name "self" p3, .Constant (.str m) j p4] [] p5) (envOfC qual (defScope st) n fI cdv) = (do
      let ov ← eval (.Name "WaitError" p1) (envOfC qual (defScope st) n fI cdv)
      standAt p2.atName
      let (f, first) ← holding [ov] (getMethod ov "__init__" pl)
      callWith p5 f first (backTo p5 (starEach [.Name "self" p3, .Constant (.str m) j p4] (envOfC qual (defScope st) n fI cdv))) (backToKw p5 (keywordEach [] (envOfC qual (defScope st) n fI cdv)))))
    (l1 : (defScope st).names.lookup ("self" : Str) = some .local) (l2 : (defScope st).names.lookup f = some .local) (hdf : (f == ("__debug__" : Str)) = false := by decide) (hcf : (f == ("__classdict__" : Str)) = false := by decide) :
    FnOk T.P T.w T.K T.mg T.base CX0 1 fI fd ["self", f] (spI T.K C [f]) := by
  refine F.ok S (fun vs H Q E ⟨a, ws, e1, e2, _⟩ => by rw [e1, List.length_cons, e2]; rfl) fun cdv A outer s H vs Q E hr h => ?_
  rw [hb]
  refine ⟨_, pss_cons (ps_expr (pe_winit (pl := pl) hg hW cl (pa_cons (pv 0 rfl (.inl l1)) (pa_cons pe_str pa_nil)) (hc _ _))) (pss_one (ps_ost (pv 0 rfl (.inl l1)) (pv 1 rfl (.inl l2) hdf hcf))), ?_⟩
  obtain ⟨a, ws, rfl, hl, TC, hn, ha, k⟩ := h
  match ws, hl with
  | [y], _ =>
    refine ⟨_, rfl, a, C, _, rfl, by simp, TC, ha, ?_⟩
    refine ⟨y, rfl, _, rfl, a, C, rfl, TC, hn f (by simp), .inl ⟨ha, fun dx h1 h2 => k dx h1 h2⟩⟩
theorem init2_ok {pl : Sem Bool} (F : Fun T.K "__init__" qual st fI fd) (S : FnScope ["self", f, f2] ["self", f, f2] (defScope st)) (hW : T.mg ("WaitError" : Str) = some (.ref CW)) (cl : ClsInit T.K CW) (hg : (defScope st).names.lookup ("WaitError" : Str) = some .globalImplicit)
    (hb : defBody st = [.Expr (.Call (.Attribute (.Name "WaitError" p1) "__init__" p2) [.Name "self" p3, .Constant (.str m) j p4] [] p5) p6, .Assign [.Attribute (.Name "self" p7) f p8] (.Name f p9) p10, .Assign [.Attribute (.Name "self" p11) f2 p12] (.Name f2 p13) p14])
    
    (hc : ∀ (n : Addr) (cdv : Value), eval (.Call (.Attribute (.Name "WaitError" p1) "__init__" p2) [.Name "self" p3, .Constant (.str m) j p4] [] p5) (envOfC qual (defScope st) n fI cdv) = (do
      let ov ← eval (.Name "WaitError" p1) (envOfC qual (defScope st) n fI cdv)
      standAt p2.atName
      let (f, first) ← holding [ov] (getMethod ov "__init__" pl)
      callWith p5 f first (backTo p5 (starEach [.Name "self" p3, .Constant (.str m) j p4] (envOfC qual (defScope st) n fI cdv))) (backToKw p5 (keywordEach [] (envOfC qual (defScope st) n fI cdv)))))
    (l1 : (defScope st).names.lookup ("self" : Str) = some .local) (l2 : (defScope st).names.lookup f = some .local) (l3 : (defScope st).names.lookup f2 = some .local) (hdf : (f == ("__debug__" : Str)) = false := by decide) (hcf : (f == ("__classdict__" : Str)) = false := by decide)
    (hdf2 : (f2 == ("__debug__" : Str)) = false := by decide) (hcf2 : (f2 == ("__classdict__" : Str)) = false := by decide) :
    FnOk T.P T.w T.K T.mg T.base CX0 1 fI fd ["self", f, f2] (spI T.K C [f, f2]) := by
  refine F.ok S (fun vs H Q E ⟨a, ws, e1, e2, _⟩ => by rw [e1, List.length_cons, e2]; rfl) fun cdv A outer s H vs Q E hr h => ?_
  rw [hb]
  refine ⟨_, pss_cons (ps_expr (pe_winit (pl := pl) hg hW cl (pa_cons (pv 0 rfl (.inl l1)) (pa_cons pe_str pa_nil)) (hc _ _))) (pss_cons (ps_ost (pv 0 rfl (.inl l1)) (pv 1 rfl (.inl l2) hdf hcf)) (pss_one (ps_ost (pv 0 rfl (.inl l1)) (pv 2 rfl (.inl l3) hdf2 hcf2)))), ?_⟩
  obtain ⟨a, ws, rfl, hl, TC, hn, ha, k⟩ := h
  match ws, hl with
  | [y, y2], _ =>
    refine ⟨_, rfl, a, C, _, rfl, by simp, TC, ha, ?_⟩
    refine ⟨y, rfl, _, rfl, a, C, rfl, TC, hn f (by simp), .inl ⟨ha, fun dx h1 h2 => ?_⟩⟩
    refine ⟨y2, rfl, _, rfl, a, C, rfl, TC, hn f2 (by simp), .inr ⟨dx, _, upd_same, by rw [upd_ne h2, upd_same], by simp, ?_⟩⟩
    have e : upd (upd (upd H dx (exd dx [(f, y)])) a (exo a C (some dx))) dx (exd dx ((f2, y2) :: [(f, y)])) = upd (upd H dx (exd dx ([f, f2].zip [y, y2]).reverse)) a (exo a C (some dx)) := by
      funext b
      by_cases hb1 : b = dx
      · subst hb1
        rw [upd_same, upd_ne h2, upd_same]; rfl
      · rw [upd_ne hb1]
        by_cases hb2 : b = a
        · subst hb2; rw [upd_same, upd_same]
        · rw [upd_ne hb2, upd_ne hb2, upd_ne hb1, upd_ne hb1]
    rw [e]
    exact k dx h1 h2
/-- an own exception class x with the fields fs -/
structure ExcT (T : Top) (x : Str) (fs : List Str) : Prop where
  ex : ∃ fI fd ps, T.mg x = some (.ref (T.cm x)) ∧ OexC T.K (T.cm x) ∧ PySem.W.findIn T.K (.ref (T.cm x)) "__init__" = some (some (.ref fI)) ∧ PySem.W.typeIn T.K (.ref fI) = some (.type "function") ∧
    FnOk T.P T.w T.K T.mg T.base CX0 1 fI fd ps (spI T.K (T.cm x) fs) ∧ Binds T.K fd ps [] ∧ ∀ f ∈ fs, PySem.W.findIn T.K (.ref (T.cm x)) f = some none
end
theorem RepF.of_zip {K : PySem.W.Frag} {ρ : List Addr} {H : Hp} : ∀ {fs : List Str} {vs : List V} {ws : List W}, RepAll K ρ H vs ws → RepF K ρ H (fs.zip vs) (fs.zip ws)
  | [], _, _, _ => .nil
  | _ :: _, _, _, .nil => .nil
  | _ :: _, _, _, .cons h r => .cons h (RepF.of_zip r)
theorem RepF.app {K : PySem.W.Frag} {ρ : List Addr} {H : Hp} {κ : Type} {a b : List (κ × V)} {c d : List (κ × W)} (h : RepF K ρ H a c) (h2 : RepF K ρ H b d) : RepF K ρ H (a ++ b) (c ++ d) := by
  induction h with
  | nil => exact h2
  | cons r _ ih => exact .cons r ih
theorem RepF.rev {K : PySem.W.Frag} {ρ : List Addr} {H : Hp} {κ : Type} {a : List (κ × V)} {c : List (κ × W)} (h : RepF K ρ H a c) : RepF K ρ H a.reverse c.reverse := by
  induction h with
  | nil => exact .nil
  | cons r _ ih => rw [List.reverse_cons, List.reverse_cons]; exact ih.app (.cons r .nil)
theorem RepF.lookup {K : PySem.W.Frag} {ρ : List Addr} {H : Hp} {f : Str} {w : W} : ∀ {a : List (Str × V)} {c : List (Str × W)}, RepF K ρ H a c → c.lookup f = some w → ∃ v, a.lookup f = some v ∧ Rep K ρ H v w
  | _, _, .nil, h => by cases h
  | _, _, @RepF.cons _ _ _ _ k v u vs ws r q, h => by
    by_cases e : f = k
    · subst e
      simp [List.lookup] at h ⊢
      subst h; exact r
    · have e' : (f == k) = false := by simpa using e
      simp only [List.lookup, e'] at h ⊢
      exact RepF.lookup q h
def sRaise (x : Str) (fs : List Str) (a : Av) : Sv := fun env S => (a env S).toS env fun ws S1 => if ws.length = fs.length ∧ ws.length ≤ 1000 then .exn x (fs.zip ws).reverse env S1 else .bad
section
variable {X : Cx} {cm : CM} {xw : WX} {pos pos2 p : Pos} {e : Expr} {es : List Expr} {tr : Av} {x : Str} {fs : List Str}
theorem sw_raise (E : ExcT (topOf X cm) x fs) (hc : X.calm = true) (tk : Takes X xw) (hr : Room 2 X.A) (hg : Gl X x) (ha : AW X cm xw (e :: es) tr)
    (hdb : (x == ("__debug__" : Str)) = false := by decide) (he : starEach (e :: es) X.env = (false, eval e X.env) :: starEach es X.env := by rfl) (hpl : (backTo pos (starEach es X.env)).any (·.1) = false := by rfl) :
    SW X cm xw (.Raise (some (.Call (.Name x p) (e :: es) [] pos)) none pos2) (sRaise x fs tr) := by
  obtain ⟨fI, fd, ps, gC, TC, iC, tI, F, hb, hno⟩ := E.ex
  refine (ps_raise hc tk (pmk_oex (dvs := []) (ds := []) TC iC tI F hr hb .nil pass0 hg gC ha hdb he hpl)).wimp fun D σ H ⟨ρ, env, S, R, P⟩ => ?_
  refine liftA.toS R P fun ρ1 ws S1 vs H1 st R1 r1 P1 => ?_
  split at P1
  · rename_i hl
    have hv : vs.length = fs.length := by rw [r1.length]; exact hl.1
    refine ⟨by rw [r1.length]; exact hl.2, fun a ha => ⟨a, vs, by rw [List.append_nil], hv, TC, hno, upd_same, fun dx h1 h2 => ?_⟩⟩
    rw [upd_ne h2] at h1
    refine ⟨rfl, dx, (fs.zip vs).reverse, upd_same, by rw [upd_ne h2, upd_same], h1, ?_⟩
    have e : upd (del (upd (upd (upd H1 a (exo a (cm x) none)) dx (exd dx (fs.zip vs).reverse)) a (exo a (cm x) (some dx))) a) dx (.xd (fs.zip vs).reverse) = upd H1 dx (.xd (fs.zip vs).reverse) := by
      funext b
      by_cases hb1 : b = dx
      · subst hb1; rw [upd_same, upd_same]
      · rw [upd_ne hb1, upd_ne hb1]
        by_cases hb2 : b = a
        · subst hb2; rw [del_same, ha]
        · rw [del_ne hb2, upd_ne hb2, upd_ne hb1, upd_ne hb2]
    show xw (.ref (cm x)) (some dx) σ _
    rw [e]
    have st2 : Step ρ1 H1 ρ1 (upd H1 dx (.xd (fs.zip vs).reverse)) := Step.new h1
    exact P1 ρ1 σ (some dx) _ st2 (R1.step st2 (R1.s.new h1)) ⟨dx, _, rfl, upd_same, R1.s.notin h1, (RepF.of_zip (r1.mono st2)).rev⟩
  · exact P1.elim
end
end HW
namespace HW
open PySem L2
open PyProof.Rows hiding St
/-! ### try, and what the suite does with the exception it holds -/
abbrev xwNo : WX := fun _ _ _ _ => False
abbrev Sx := Str → List (Str × W) → Sv
abbrev Ex := Str → List (Str × W) → Ev
abbrev Tx := Str → List (Str × W) → Tv
abbrev Ax := Str → List (Str × W) → Av
/-- try: b / except ..: su; cat: is it caught?; the name's slot i is empty behind -/
def sTry (cat : Str → Option Bool) (i : Nat) (b : Sv) (su : Sx) : Sv := fun env S => match b env S with
  | .exn c fs e S1 => (match cat c with
    | none => .bad
    | some false => .exn c fs e S1
    | some true => if i < e.length then (match su c fs (e.set i none) S1 with
      | .nx e2 S2 => .nx (e2.set i none) S2
      | .bk e2 S2 => .bk (e2.set i none) S2
      | .ct e2 S2 => .ct (e2.set i none) S2
      | .rt w S2 => .rt w S2
      | _ => .bad) else .bad)
  | r => r
/-- the suite holds the exception at a, of the class cls, its dict d, in the slot i -/
structure InU (g : G) (i : Nat) (a : Addr) (cls : Value) (d : Option Addr) (ρ : List Addr) (σ : St) (H : Hp) (c : Str) (fs : List (Str × W)) : Prop where
  slot : σ[i]? = some (some (.ref a))
  cls : cls = .ref (g.cm c)
  dict : XDict g ρ H d fs
theorem XDict.step {g : G} {ρ ρ' : List Addr} {H H' : Hp} {d : Option Addr} {fs : List (Str × W)} (x : XDict g ρ H d fs) (st : Step ρ H ρ' H') : XDict g ρ' H' d fs := by
  obtain ⟨dd, vs, e1, e2, e3, e4⟩ := x
  refine ⟨dd, vs, e1, st.keep _ _ e2 e3 (fun _ z => nomatch z), fun m => ?_, e4.mono st⟩
  rcases st.fresh _ m with h | h
  · exact e3 h
  · obtain ⟨ps, z⟩ := h _ e2
    cases z
theorem InU.step {g : G} {i : Nat} {a : Addr} {cls : Value} {d : Option Addr} {ρ ρ' : List Addr} {σ : St} {H H' : Hp} {c : Str} {fs : List (Str × W)} (u : InU g i a cls d ρ σ H c fs) (st : Step ρ H ρ' H') : InU g i a cls d ρ' σ H' c fs := ⟨u.slot, u.cls, u.dict.step st⟩
def liftU (g : G) (i : Nat) (a : Addr) (cls : Value) (d : Option Addr) (su : Sx) : TS := fun D σ H => ∃ ρ env S c fs, Rel g ρ S env σ H ∧ InU g i a cls d ρ σ H c fs ∧ SPost g xwNo ρ H D (su c fs env S)
def liftEU (g : G) (i : Nat) (a : Addr) (cls : Value) (d : Option Addr) (te : Ex) : TE := fun σ H Q => ∃ ρ env S c fs, Rel g ρ S env σ H ∧ InU g i a cls d ρ σ H c fs ∧ EPost g xwNo ρ env σ H Q (te c fs env S)
def liftAU (g : G) (i : Nat) (a : Addr) (cls : Value) (d : Option Addr) (te : Ax) : TA := fun σ H Q => ∃ ρ env S c fs, Rel g ρ S env σ H ∧ InU g i a cls d ρ σ H c fs ∧ APost g xwNo ρ env σ H Q (te c fs env S)
def liftTU (g : G) (i : Nat) (a : Addr) (cls : Value) (d : Option Addr) (te : Tx) : TT := fun σ H Q => ∃ ρ env S c fs, Rel g ρ S env σ H ∧ InU g i a cls d ρ σ H c fs ∧ TPost g xwNo ρ env σ H Q (te c fs env S)
section
variable {X : Cx} {cm : CM} {xw : WX} {n x : Str} {cv : Value} {i : Nat} {body suite : List Stmt} {b₀ : Stmt} {np pos pos' : Pos} {sb : Sv} {su : Sx} {cat : Str → Option Bool}
theorem sw_try (hs : X.stack = X.env :: X.outer) (hf : X.env.frame = some X.env.locals) (hN : X.N.Nodup) (hi : X.N[i]? = some n) (hln : X.env.kindOf n = some .local) (hc : Names X x cv) (tk : Takes X xw)
    (hk : ∀ c b, cat c = some b → PySem.W.exmOne X.K (.ref (cm c)) cv = some b)
    (hb : ∀ (W : WX) (pn : List (Addr × Obj)) (xe : Value → Shared → Prop), Takes (X.tr pn xe) W → PassesOwn (model X.prog X.w) X.A X.env xe → SWs (X.tr pn xe) cm W body sb)
    (hsu : ∀ (a : Addr) (oe : Obj) (cls : Value) (d : Option Addr) (pn : List (Addr × Obj)), Zc cls d oe → (∃ vs, oe.data = .fields vs) → PSs (X.suite a ((a, oe) :: pn)) (b₀ :: suite) (liftU ⟨X.K, cm⟩ i a cls d su)) :
    SW X cm xw (.Try body [.ExceptHandler (some (.Name x np)) (some n) (b₀ :: suite) pos'] [] [] pos) (sTry cat i sb su) := by
  refine PS.wimp (ps_try_as (tb := fun W => liftS ⟨X.K, cm⟩ W sb) (ts := fun a cls d => liftU ⟨X.K, cm⟩ i a cls d su) hs hf hN hi hln hc tk hb hsu) fun D σ H ⟨ρ, env, S, R, P⟩ => ?_
  refine ⟨ρ, env, S, R, ?_⟩
  unfold sTry at P
  revert P
  cases sb env S with
  | nx e S1 => intro P; exact P
  | bk e S1 => intro P; exact P
  | ct e S1 => intro P; exact P
  | rt w S1 => intro P; exact P
  | bad => intro P; exact P
  | exn c fs e S1 =>
    intro P ρ1 σ1 d H1 st R1 x1
    dsimp only at P
    cases hcat : cat c with
    | none => rw [hcat] at P; exact P.elim
    | some b =>
      rw [hcat] at P
      refine ⟨b, hk c b hcat, fun hb a ha => ?_, fun hb => ?_⟩
      · subst hb
        dsimp only at P
        split at P
        rotate_left
        · exact P.elim
        rename_i hle
        have hl : i < σ1.length := by rw [← R1.e.len]; exact hle
        refine ⟨ρ1, e.set i none, S1, c, fs, ⟨R1.s, R1.e.unset i _⟩, ⟨by rw [List.getElem?_set_self hl], rfl, x1⟩, ?_⟩
        have P2 := SPost.step (D := D) (xw := xw) st P
        revert P2
        cases su c fs (e.set i none) S1 with
        | nx e2 S2 => intro P2 ρ2 σ2 H2 st2 R2; exact P2 ρ2 _ H2 st2 ⟨R2.s, R2.e.unset i _⟩
        | bk e2 S2 => intro P2 ρ2 σ2 H2 st2 R2; exact P2 ρ2 _ H2 st2 ⟨R2.s, R2.e.unset i _⟩
        | ct e2 S2 => intro P2 ρ2 σ2 H2 st2 R2; exact P2 ρ2 _ H2 st2 ⟨R2.s, R2.e.unset i _⟩
        | rt w S2 => intro P2; exact P2
        | exn c fs e2 S2 => intro P2; exact P2.elim
        | bad => intro P2; exact P2.elim
      · subst hb
        exact P ρ1 σ1 d H1 st R1 x1
/-! the suite's own rules -/
variable {a : Addr} {cls : Value} {d : Option Addr} {e e2 : Expr} {es : List Expr} {te te2 : Ex} {tr : Ax} {t u : Tx} {s1 s2 : Sx}
abbrev EU (X : Cx) (cm : CM) (i : Nat) (a : Addr) (cls : Value) (d : Option Addr) (e : Expr) (te : Ex) : Prop := PE X e (liftEU ⟨X.K, cm⟩ i a cls d te)
abbrev AU (X : Cx) (cm : CM) (i : Nat) (a : Addr) (cls : Value) (d : Option Addr) (es : List Expr) (te : Ax) : Prop := PA X es (liftAU ⟨X.K, cm⟩ i a cls d te)
abbrev TU (X : Cx) (cm : CM) (i : Nat) (a : Addr) (cls : Value) (d : Option Addr) (e : Expr) (te : Tx) : Prop := PT X e (liftTU ⟨X.K, cm⟩ i a cls d te)
abbrev PWU (X : Cx) (cm : CM) (i : Nat) (a : Addr) (cls : Value) (d : Option Addr) (e : Expr) (te : Tx) : Prop := PW X e (liftTU ⟨X.K, cm⟩ i a cls d te)
abbrev SU (X : Cx) (cm : CM) (i : Nat) (a : Addr) (cls : Value) (d : Option Addr) (e : Stmt) (te : Sx) : Prop := PS X e (liftU ⟨X.K, cm⟩ i a cls d te)
abbrev SUs (X : Cx) (cm : CM) (i : Nat) (a : Addr) (cls : Value) (d : Option Addr) (e : List Stmt) (te : Sx) : Prop := PSs X e (liftU ⟨X.K, cm⟩ i a cls d te)
theorem eu_of {te : Ev} (h : EW X cm xwNo e te) : EU X cm i a cls d e (fun _ _ => te) := h.wimp fun σ H Q ⟨ρ, env, S, c, fs, R, U, P⟩ => ⟨ρ, env, S, R, P⟩
theorem tu_of {te : Tv} (h : TW X cm xwNo e te) : TU X cm i a cls d e (fun _ _ => te) := h.wimp fun σ H Q ⟨ρ, env, S, c, fs, R, U, P⟩ => ⟨ρ, env, S, R, P⟩
theorem liftEU.bindA {g : G} {ρ : List Addr} {env : Env} {S : Store} {σ : St} {H : Hp} {c : Str} {fs : List (Str × W)} {k : W → Store → Res (List W)} {Q : List V → Hp → Prop} {Qm : VK} (R : Rel g ρ S env σ H) (U : InU g i a cls d ρ σ H c fs) (P : APost g xwNo ρ env σ H Q ((te c fs env S).bind k))
    (h : ∀ ρ1 w S1 v H1, Step ρ H ρ1 H1 → Rel g ρ1 S1 env σ H1 → Rep g.K ρ1 H1 v w → APost g xwNo ρ1 env σ H1 Q (k w S1) → Qm v H1) : liftEU g i a cls d te σ H Qm := by
  refine ⟨ρ, env, S, c, fs, R, U, ?_⟩
  cases e : te c fs env S with
  | ok w S1 => rw [e] at P; exact fun ρ1 v H1 st R1 r1 => h ρ1 w S1 v H1 st R1 r1 (APost.step st P)
  | exn c fs S1 => rw [e] at P; exact P
  | bad => rw [e] at P; exact P
theorem liftEU.bindT {g : G} {ρ : List Addr} {env : Env} {S : Store} {σ : St} {H : Hp} {c : Str} {fs : List (Str × W)} {k : W → Store → Res Bool} {Q : Bool → Hp → Prop} {Qm : VK} (R : Rel g ρ S env σ H) (U : InU g i a cls d ρ σ H c fs) (P : TPost g xwNo ρ env σ H Q ((te c fs env S).bind k))
    (h : ∀ ρ1 w S1 v H1, Step ρ H ρ1 H1 → Rel g ρ1 S1 env σ H1 → Rep g.K ρ1 H1 v w → TPost g xwNo ρ1 env σ H1 Q (k w S1) → Qm v H1) : liftEU g i a cls d te σ H Qm := by
  refine ⟨ρ, env, S, c, fs, R, U, ?_⟩
  cases e : te c fs env S with
  | ok w S1 => rw [e] at P; exact fun ρ1 v H1 st R1 r1 => h ρ1 w S1 v H1 st R1 r1 (TPost.step st P)
  | exn c fs S1 => rw [e] at P; exact P
  | bad => rw [e] at P; exact P
theorem liftEU.toS {g : G} {ρ : List Addr} {env : Env} {S : Store} {σ : St} {H : Hp} {c : Str} {fs : List (Str × W)} {k : W → Store → SRes} {D : Ends} {Qm : VK} (R : Rel g ρ S env σ H) (U : InU g i a cls d ρ σ H c fs) (P : SPost g xwNo ρ H D ((te c fs env S).toS env k))
    (h : ∀ ρ1 w S1 v H1, Step ρ H ρ1 H1 → Rel g ρ1 S1 env σ H1 → Rep g.K ρ1 H1 v w → SPost g xwNo ρ1 H1 D (k w S1) → Qm v H1) : liftEU g i a cls d te σ H Qm := by
  refine ⟨ρ, env, S, c, fs, R, U, ?_⟩
  cases e : te c fs env S with
  | ok w S1 => rw [e] at P; exact fun ρ1 v H1 st R1 r1 => h ρ1 w S1 v H1 st R1 r1 (SPost.step st P)
  | exn c fs S1 => rw [e] at P; exact fun ρ1 d H1 st R1 x1 => P ρ1 σ d H1 st R1 x1
  | bad => rw [e] at P; exact P
theorem au_nil : AU X cm i a cls d [] (fun _ _ => aNil) := pa_nil.wimp fun σ H Q ⟨ρ, env, S, c, fs, R, U, P⟩ => P ρ _ H (Step.refl _ _) R .nil
theorem au_cons (ha : EU X cm i a cls d e te) (hr : AU X cm i a cls d es tr) (hs : starEach (e :: es) X.env = (false, eval e X.env) :: starEach es X.env := by rfl) : AU X cm i a cls d (e :: es) (fun c fs => aCons (te c fs) (tr c fs)) := by
  refine (pa_cons ha hr hs).wimp fun σ H Q ⟨ρ, env, S, c, fs, R, U, P⟩ => ?_
  refine liftEU.bindA R U P fun ρ1 w S1 v H1 st R1 r1 P1 => ?_
  refine ⟨ρ1, env, S1, c, fs, R1, U.step st, ?_⟩
  have P1' : APost ⟨X.K, cm⟩ xwNo ρ1 env σ H1 Q ((tr c fs env S1).bind fun ws S2 => .ok (w :: ws) S2) := P1
  revert P1'
  cases tr c fs env S1 with
  | ok ws S2 => intro P2 ρ2 vs H2 st2 R2 r2; exact P2 ρ2 _ H2 st2 R2 (.cons (r1.mono st2) r2)
  | exn c fs S2 => intro P2; exact P2
  | bad => intro P2; exact P2
theorem eu_tup {x1} (h : AU X cm i a cls d es tr) : EU X cm i a cls d (.Tuple es x1 pos) (fun c fs => eTup (tr c fs)) := by
  refine (pe_tup h).wimp fun σ H Q ⟨ρ, env, S, c, fs, R, U, P⟩ => ⟨ρ, env, S, c, fs, R, U, ?_⟩
  have P0 : EPost ⟨X.K, cm⟩ xwNo ρ env σ H Q ((tr c fs env S).bind fun ws S1 => if ws.length ≤ LIM then .ok (.tup ws) S1 else .bad) := P
  revert P0
  cases tr c fs env S with
  | exn c fs S2 => intro P2; exact P2
  | bad => intro P2; exact P2
  | ok ws S1 =>
    intro P1 ρ1 vs H1 st R1 r1
    rw [Res.bind_ok] at P1
    split at P1
    · rename_i hl
      refine ⟨lim_line (by rw [r1.length]; exact hl), fun p hp => ?_⟩
      have st2 : Step ρ1 H1 ρ1 (upd H1 p (.tup vs)) := Step.new hp
      exact P1 ρ1 _ _ (st.trans st2) (R1.step st2 (R1.s.new hp)) (.tup (.inl (.inl upd_same)) (r1.mono st2))
    · exact P1.elim
theorem tu_val (h : EU X cm i a cls d e te) (he : ∀ whole, isTrue e X.env whole = (do let v ← whole; standAt e.pos; holding [v] (truthy v)) := by intro _; rfl) : TU X cm i a cls d e (fun c fs => tVal (te c fs)) := by
  refine (pt_val h he).wimp fun σ H Q ⟨ρ, env, S, c, fs, R, U, P⟩ => ?_
  refine liftEU.bindT R U P fun ρ1 w S1 v H1 st R1 r1 P1 => ?_
  cases w with
  | bl c => cases r1; exact ⟨c, rfl, P1 ρ1 H1 (Step.refl _ _) R1⟩
  | _ => exact P1.elim
theorem pwu_and1 (h : TU X cm i a cls d e t) : PWU X cm i a cls d (.BoolOp .And [e] pos) t := pw_and1 h
theorem pwu_and {rest : List Expr} (ha : TU X cm i a cls d e t) (hb : PWU X cm i a cls d (.BoolOp .And (e2 :: rest) pos) u) : PWU X cm i a cls d (.BoolOp .And (e :: e2 :: rest) pos) (fun c fs => tAnd (t c fs) (u c fs)) := by
  refine pw_wimp (pw_and ha hb) fun σ H Q ⟨ρ, env, S, c, fs, R, U, P⟩ => ⟨ρ, env, S, c, fs, R, U, ?_⟩
  have P0 : TPost ⟨X.K, cm⟩ xwNo ρ env σ H Q ((t c fs env S).bind fun b S1 => if b = true then u c fs env S1 else .ok false S1) := P
  revert P0
  cases t c fs env S with
  | exn c fs S2 => intro P2; exact P2
  | bad => intro P2; exact P2
  | ok b S1 =>
    intro P1 ρ1 H1 st R1
    cases b with
    | true => exact ⟨ρ1, env, S1, c, fs, R1, U.step st, TPost.step st P1⟩
    | false => exact P1 ρ1 H1 st R1
def sIfU (t : Tx) (s1 s2 : Sx) : Sx := fun c fs => sIf (t c fs) (s1 c fs) (s2 c fs)
theorem su_if {b1 b2 : List Stmt} (hc : TU X cm i a cls d e t) (ha : SUs X cm i a cls d b1 s1) (hb : SUs X cm i a cls d b2 s2) : SU X cm i a cls d (.If e b1 b2 pos) (sIfU t s1 s2) := by
  refine (ps_if hc ha hb).wimp fun D σ H ⟨ρ, env, S, c, fs, R, U, P⟩ => ⟨ρ, env, S, c, fs, R, U, ?_⟩
  have P0 : SPost ⟨X.K, cm⟩ xwNo ρ H D ((t c fs env S).toS env fun b S1 => if b = true then s1 c fs env S1 else s2 c fs env S1) := P
  revert P0
  cases t c fs env S with
  | exn c fs S2 => intro P2 ρ1 d H1 st R1 x1; exact P2 ρ1 σ d H1 st R1 x1
  | bad => intro P2; exact P2
  | ok b S1 =>
    intro P1 ρ1 H1 st R1
    cases b with
    | true => exact ⟨ρ1, env, S1, c, fs, R1, U.step st, SPost.step st P1⟩
    | false => exact ⟨ρ1, env, S1, c, fs, R1, U.step st, SPost.step st P1⟩
theorem su_nil : SUs X cm i a cls d [] (fun _ _ => sSkip) := pss_nil.wimp fun D σ H ⟨ρ, env, S, c, fs, R, U, P⟩ => P ρ σ H (Step.refl _ _) R
theorem su_set {j : Nat} {p' : Pos} (hj : i ≠ j) (hN : X.N.Nodup) (he : EU X cm i a cls d e te) (hi : X.N[j]? = some x := by rfl) (hx : Loc X.env.scope x := by first | exact Or.inl rfl | exact Or.inr rfl) (hs : swapsWith e (some (.Name x p')) pos.line X.env = pure false := by rfl)
    (hf : X.fn x = true ∨ X.env.scope.names.lookup x = some .local := by first | exact .inl rfl | exact .inr rfl | assumption) : SU X cm i a cls d (.Assign [.Name x p'] e pos) (fun c fs => sAsg (te c fs) (HW.gName j)) := by
  refine (ps_set hN hi hx he hs hf).wimp fun D σ H ⟨ρ, env, S, c, fs, R, U, P⟩ => ?_
  exact liftEU.toS R U P fun ρ1 w S1 v H1 st R1 r1 P1 => P1 ρ1 _ H1 (Step.refl _ _) ⟨R1.s, R1.e.set j r1⟩
/-- name = e, then the rest -/
def sSeqU (s1 s2 : Sx) : Sx := fun c fs => sSeq (s1 c fs) (s2 c fs)
theorem su_setThen {j : Nat} {p' : Pos} {rest : List Stmt} (hj : i ≠ j) (hN : X.N.Nodup) (he : EU X cm i a cls d e te) (hr : SUs X cm i a cls d rest s2) (hi : X.N[j]? = some x := by rfl) (hx : Loc X.env.scope x := by first | exact Or.inl rfl | exact Or.inr rfl) (hs : swapsWith e (some (.Name x p')) pos.line X.env = pure false := by rfl)
    (hf : X.fn x = true ∨ X.env.scope.names.lookup x = some .local := by first | exact .inl rfl | exact .inr rfl | assumption) : SUs X cm i a cls d (.Assign [.Name x p'] e pos :: rest) (sSeqU (fun c fs => sAsg (te c fs) (HW.gName j)) s2) := by
  refine (pss_cons (ps_set hN hi hx he hs hf) hr).wimp fun D σ H ⟨ρ, env, S, c, fs, R, U, P⟩ => ?_
  refine ⟨ρ, env, S, c, fs, R, U, ?_⟩
  have P0 : SPost ⟨X.K, cm⟩ xwNo ρ H D (match ((te c fs env S).toS env fun w S1 => .nx (env.set j (some w)) S1) with
    | .nx e S1 => s2 c fs e S1
    | r => r) := P
  revert P0
  cases te c fs env S with
  | exn c fs S2 => intro P2 ρ1 d H1 st R1 x1; exact P2 ρ1 σ d H1 st R1 x1
  | bad => intro P2; exact P2
  | ok w S1 =>
    intro P1 ρ1 v H1 st R1 r1
    exact ⟨ρ1, _, S1, c, fs, ⟨R1.s, R1.e.set j r1⟩, ⟨by rw [List.getElem?_set_ne (Ne.symm hj)]; exact U.slot, U.cls, U.dict.step st⟩, SPost.step st P1⟩
end

theorem su_one {X : Cx} {cm : CM} {i : Nat} {a : Addr} {cls : Value} {d : Option Addr} {st : Stmt} {s1 : Sx} (h : SU X cm i a cls d st s1) : SUs X cm i a cls d [st] s1 := pss_one h
/-- what is known of the classes that may be caught -/
structure ExcF (K : PySem.W.Frag) (D : Addr) : Prop where
  hcl : (PySem.W.clsIn K D).isSome = true
  ga : PySem.W.findIn K (.ref D) "__getattribute__" = some (some (.builtin "BaseException.__getattribute__"))
  gg : PySem.W.findIn K (.ref D) "__getattr__" = some none
  hs : PySem.W.subIn K (.ref D) (.type "BaseException") = some true
  hd : PySem.W.hasDictIn K D = true
  ha : PySem.W.findIn K (.ref D) "__class__" = some (some (.builtin "object.__class__"))
  hn : PySem.W.specialIn K (.builtin "object.__class__") "__get__" = some (some (.builtin "getset_descriptor.__get__"))
  ht : PySem.W.takesIn K (.builtin "object.__class__") = some true
  hm : PySem.W.mroIn K D (.type "object") = some true
section
variable {X : Cx} {cm : CM} {i : Nat} {a : Addr} {cls : Value} {d : Option Addr} {oe : Obj} {pn : List (Addr × Obj)} {n f : Str} {np pos : Pos}
/-- e.f; kn: the classes that may be caught -/
def eFld (kn : Str → Bool) (f : Str) : Ex := fun c fs _ S => if kn c = true then (match fs.lookup f with
  | some w => .ok w S
  | none => .bad) else .bad
theorem eu_fld {kn : Str → Bool} (hz : Zc cls d oe) (hf : ∃ vs, oe.data = .fields vs) (hx : ∀ c, kn c = true → ExcF X.K (cm c) ∧ PySem.W.findIn X.K (.ref (cm c)) f = some none) (he : PE (X.suite a ((a, oe) :: pn)) (.Name n np) (tVar i))
    (hb : attributeBase (.Name n np) f X.env (eval (.Name n np) X.env) = eval (.Name n np) X.env := by rfl) :
    EU (X.suite a ((a, oe) :: pn)) cm i a cls d (.Attribute (.Name n np) f pos) (eFld kn f) := by
  refine PE.mk fun pins s σ H Q I ⟨ρ, env, S, c, fs, R, U, P⟩ => ?_
  unfold eFld at P
  split at P
  rotate_left
  · exact P.elim
  rename_i hk
  split at P
  rotate_left
  · exact P.elim
  rename_i w hw
  obtain ⟨F, hno⟩ := hx c hk
  refine attr_of hb (thn (he.run pins s σ H (fun x H1 => x = .ref a ∧ H1 = H) I ⟨_, U.slot, rfl, rfl⟩) fun u s1 ⟨x, H1, I1, rx, ex, eH⟩ => ?_)
  subst ex; subst eH
  obtain rfl : u = Value.ref a := rx
  obtain ⟨dd, vs, ed, ea, nd, rf⟩ := U.dict
  obtain ⟨v, hv, rv⟩ := rf.lookup hw
  have ec := U.cls
  subst ec; subst ed
  obtain ⟨ha, _⟩ := I1.pin (a, oe) (List.mem_append_left _ List.mem_cons_self)
  obtain ⟨fv, hd⟩ := hf
  have hx : ObjOk X.prog X.w H1 s1.heap dd (.xd vs) := I1.hok dd _ ea
  obtain ⟨mA, hns, hr⟩ := hx
  obtain ⟨od, ho, hl⟩ := lookIn_ns hns
  obtain ⟨u, hu, ru⟩ := RelO.some_of (v := v) (o := mA f) (by rw [← hv]; exact hr f)
  have J : PySem.W.InstAt s1.heap a oe (cm c) (some od) := ⟨ha, hz.1, by unfold PySem.W.notCls; rw [hd] <;> rfl, by rw [hz.2]; exact ho⟩
  exact HandSPX.exc_get I1.kIn J F.ga F.gg F.hs (PySem.W.findObj_own F.hd hno rfl (by rw [hl, hu])) (handed_of ru) ⟨v, H1, I1.tok _, ru, P ρ v H1 (Step.refl _ _) R rv⟩
/-- the exception's class against written ones -/
def rIsU (K : PySem.W.Frag) (a : Addr) (cls : Value) (d : Option Addr) : List V → Hp → VK → Prop := fun xs H Q => ∃ (D dd : Addr) (fs : List (Str × V)) (b : Bool), cls = .ref D ∧ ExcF K D ∧ d = some dd ∧ H dd = some (.xd fs) ∧ Q (.bl b) H ∧
  ((∃ C, xs = [.ref a, .ref C] ∧ PySem.W.kitOne K (.ref D) (.ref C) = some b) ∨ (∃ T, xs = [.ref a, .ty T] ∧ PySem.W.kitOne K (.ref D) (.type T) = some b) ∨
    ∃ (p : Addr) (cs : List Addr), xs = [.ref a, .ref p] ∧ H p = some (.tup (cs.map V.ref)) ∧ PySem.W.kitAny K (.ref D) (cs.map Value.ref) = some b)
theorem vals_refs : ∀ {cs : List Addr} {us : List Value}, Vals (cs.map V.ref) us → us = cs.map Value.ref
  | [], _, .nil => rfl
  | _ :: _, _, .cons r t => by rw [vals_refs t]; cases r; rfl
theorem call_isU (hz : Zc cls d oe) (hf : ∃ vs, oe.data = .fields vs) : CallR (X.suite a ((a, oe) :: pn)) (.builtin "isinstance") (rIsU X.K a cls d) := by
  intro pins s σ H xs us Q I r h
  obtain ⟨D, dd, fs, b, ec, F, ed, ea, q, h⟩ := h
  subst ec; subst ed
  obtain ⟨ha, _⟩ := I.pin (a, oe) (List.mem_append_left _ List.mem_cons_self)
  obtain ⟨fv, hd⟩ := hf
  have hx : ObjOk X.prog X.w H s.heap dd (.xd fs) := I.hok dd _ ea
  obtain ⟨mA, hns, hr⟩ := hx
  obtain ⟨od, ho, hl⟩ := lookIn_ns hns
  have J : PySem.W.InstAt s.heap a oe D (some od) := ⟨ha, hz.1, by unfold PySem.W.notCls; rw [hd] <;> rfl, by rw [hz.2]; exact ho⟩
  have Z := PySem.W.kitx_exc (x := a) (ox := oe) (od := some od) F.hcl F.ga F.gg F.hs F.ha F.hn F.ht F.hm
  have fin : ∀ tk, EP (X.suite a ((a, oe) :: pn)) pins σ Q (.bool b) { s with toks := tk } := fun tk => ⟨.bl b, H, I.kept (t' := tk) fun _ _ z => z, rfl, q⟩
  rcases h with ⟨C, rfl, e⟩ | ⟨T, rfl, e⟩ | ⟨p, cs, rfl, hp, e⟩
  · cases r with
    | cons rx rr => cases rr with
      | cons ry rr => cases rr; cases rx; cases ry; exact PySem.W.kia_one Z I.kIn J e (fun z => nomatch z) fin
  · cases r with
    | cons rx rr => cases rr with
      | cons ry rr => cases rr; cases rx; cases ry; exact PySem.W.kia_one Z I.kIn J e (fun z => nomatch z) fin
  · cases r with
    | cons rx rr => cases rr with
      | cons ry rr =>
        cases rr; cases rx; cases ry
        obtain ⟨hz2, its, rv, it⟩ := I.hok p _ hp
        have := vals_refs rv
        subst this
        obtain ⟨ot, htp, hc, n, hdt⟩ := it
        obtain ⟨oc, odc, oda, osl⟩ := ot
        dsimp only at hc hdt
        subst hc; subst hdt
        exact PySem.W.kia_tup Z I.kIn J htp e (fun z => nomatch z) fin

def eIs (isa : Str → Option Bool) : Ex := fun c _ _ S => match isa c with
  | some b => .ok (.bl b) S
  | none => .bad
variable {isa : Str → Option Bool} {ce : Expr} {ip : Pos} {x : Str}
theorem pe_bty {T : String} {x : Str} {p : Pos} {Y : Cx} (hg : Gl Y x) (hm : Y.mg x = none) (hv : bootBuiltins x = some (.type T)) (hn : x ≠ "__name__" := by decide) (hd : (x == ("__debug__" : Str)) = false := by decide) : PE Y (.Name x p) (tC (.ty T)) :=
  ⟨fun pins s σ H Q I h => ld_blt I hg hm hv ⟨.ty T, H, I, rfl, h⟩ hn hd⟩
theorem eu_is {v : V} {cv : Value} (hz : Zc cls d oe) (hf : ∃ vs, oe.data = .fields vs) (hg : Gl X "isinstance") (hm : X.mg "isinstance" = none) (hx : ∀ c b, isa c = some b → ExcF X.K (cm c) ∧ PySem.W.kitOne X.K (.ref (cm c)) cv = some b)
    (hv : (∃ C, v = .ref C ∧ cv = .ref C) ∨ ∃ T, v = .ty T ∧ cv = .type T) (he : PE (X.suite a ((a, oe) :: pn)) (.Name n np) (tVar i)) (hc : PE (X.suite a ((a, oe) :: pn)) ce (tC v))
    (h1 : starEach [.Name n np, ce] X.env = (false, eval (.Name n np) X.env) :: starEach [ce] X.env := by rfl) (h2 : starEach [ce] X.env = (false, eval ce X.env) :: starEach [] X.env := by rfl) (hpl : (backTo pos (starEach [ce] X.env)).any (·.1) = false := by rfl) :
    EU (X.suite a ((a, oe) :: pn)) cm i a cls d (.Call (.Name "isinstance" ip) [.Name n np, ce] [] pos) (eIs isa) := by
  refine (pe_callB (X := X.suite a ((a, oe) :: pn)) (call_isU (X := X) hz hf) hg hm PyProof.Rows.boot_isinstance (pa_cons he (pa_cons hc pa_nil h2) h1) (he := h1) (hpl := hpl)).wimp fun σ H Q ⟨ρ, env, S, c, fs, R, U, P⟩ => ?_
  unfold eIs at P
  split at P
  rotate_left
  · exact P.elim
  rename_i b hb
  obtain ⟨F, hk⟩ := hx c b hb
  obtain ⟨dd, vs, ed, ea, nd, rf⟩ := U.dict
  refine ⟨_, U.slot, cm c, dd, vs, b, U.cls, F, ed, ea, P ρ _ H (Step.refl _ _) R (.bl b), ?_⟩
  rcases hv with ⟨C, rfl, rfl⟩ | ⟨T, rfl, rfl⟩
  · exact .inl ⟨C, rfl, hk⟩
  · exact .inr (.inl ⟨T, rfl, hk⟩)
/-- class names, written one after another -/
def tRefs (cs : List Addr) : TA := fun _ H Q => Q (cs.map V.ref) H
theorem pa_refs_nil {Y : Cx} : PA Y [] (tRefs []) := pa_nil
theorem pa_refs {Y : Cx} {es : List Expr} {cs : List Addr} {C : Addr} {p : Pos} (hg : Gl Y x) (hm : Y.mg x = some (.ref C)) (hr : PA Y es (tRefs cs)) (hs : starEach (.Name x p :: es) Y.env = (false, eval (.Name x p) Y.env) :: starEach es Y.env := by rfl) (hd : (x == ("__debug__" : Str)) = false := by decide) :
    PA Y (.Name x p :: es) (tRefs (C :: cs)) := PA.wimp (pa_cons (pe_glob (v := .ref C) hg hm rfl hd) hr hs) fun σ H Q h => h
theorem eu_isT {cs : List Addr} {es : List Expr} {kt} {tp : Pos} (hz : Zc cls d oe) (hf : ∃ vs, oe.data = .fields vs) (hg : Gl X "isinstance") (hm : X.mg "isinstance" = none) (hx : ∀ c b, isa c = some b → ExcF X.K (cm c) ∧ PySem.W.kitAny X.K (.ref (cm c)) (cs.map Value.ref) = some b)
    (hl : cs.length ≤ 1000) (he : PE (X.suite a ((a, oe) :: pn)) (.Name n np) (tVar i)) (hc : PA (X.suite a ((a, oe) :: pn)) es (tRefs cs))
    (h1 : starEach [.Name n np, .Tuple es kt tp] X.env = (false, eval (.Name n np) X.env) :: starEach [.Tuple es kt tp] X.env := by rfl) (h2 : starEach [.Tuple es kt tp] X.env = (false, eval (.Tuple es kt tp) X.env) :: starEach [] X.env := by rfl) (hpl : (backTo pos (starEach [.Tuple es kt tp] X.env)).any (·.1) = false := by rfl) :
    EU (X.suite a ((a, oe) :: pn)) cm i a cls d (.Call (.Name "isinstance" ip) [.Name n np, .Tuple es kt tp] [] pos) (eIs isa) := by
  refine (pe_callB (X := X.suite a ((a, oe) :: pn)) (call_isU (X := X) hz hf) hg hm PyProof.Rows.boot_isinstance (pa_cons he (pa_cons (pe_tup hc) pa_nil h2) h1) (he := h1) (hpl := hpl)).wimp fun σ H Q ⟨ρ, env, S, c, fs, R, U, P⟩ => ?_
  unfold eIs at P
  split at P
  rotate_left
  · exact P.elim
  rename_i b hb
  obtain ⟨F, hk⟩ := hx c b hb
  obtain ⟨dd, vs, ed, ea, nd, rf⟩ := U.dict
  refine ⟨_, U.slot, (by rw [List.length_map, sizeLine_eq]; omega), fun p hp => ?_⟩
  have st : Step ρ H ρ (upd H p (.tup (cs.map V.ref))) := Step.new hp
  exact ⟨cm c, dd, vs, b, U.cls, F, ed, by rw [upd_ne (ne_of_none ea hp)]; exact ea, P ρ _ _ st (R.step st (R.s.new hp)) (.bl b), .inr (.inr ⟨p, cs, rfl, upd_same, hk⟩)⟩
end
end HW
namespace HW
open PySem L2
open PyProof.Rows hiding St
/-! ### a lambda without parameters, handed to a def that calls it and takes its exceptions -/
section
variable {g : G} {ρ : List Addr} {S : Store} {H H1 : Hp} {env : Env} {σ : L2.St}
theorem Step.extN (e : LamX.ExtN H H1) : Step ρ H ρ H1 := ⟨List.prefix_refl _, fun _ h => .inl h, fun a o h _ n => e a o h n, fun a xs h => e a _ h (fun _ z => nomatch z), fun a o u h => e a _ h (fun _ z => nomatch z)⟩
theorem RelS.extN (R : RelS g ρ S H) (e : LamX.ExtN H H1) (t : LamX.Tabs g.cm.T H1) : RelS g ρ S H1 := ⟨R.len, R.nd, fun n o h => by
  obtain ⟨a, h1, h2⟩ := R.obj n o h
  refine ⟨a, h1, ?_⟩
  cases o with
  | lst ws => obtain ⟨vs, h, q⟩ := h2; exact ⟨vs, e _ _ h (fun _ z => nomatch z), q.mono (Step.extN e)⟩
  | dK ws => obtain ⟨vs, h, q⟩ := h2; exact ⟨vs, e _ _ h (fun _ z => nomatch z), q.mono (Step.extN e)⟩
  | dN ws => exact h2.elim
  | ins c fs => obtain ⟨dx, vs, h, q⟩ := h2; exact ⟨dx, vs, e _ _ h (fun _ z => nomatch z), q.mono (Step.extN e)⟩
  | dead => obtain ⟨u, xs, h⟩ := h2; exact ⟨u, xs, e _ _ h (fun _ z => nomatch z)⟩, t⟩
theorem takes_len {X : Cx} {W : WX} (t : Takes X W) : Takes X (fun c d σ H => σ.length = X.N.length → W c d σ H) := fun u s' ⟨a, B, sI, pins, σ, H, cls, d, e, I, nb, up, sky, na, os, ag, w⟩ =>
  t u s' ⟨a, B, sI, pins, σ, H, cls, d, e, I, nb, up, sky, na, os, ag, w I.len⟩
end
/-- found = (o,); try: found = (t, ask()) / except ..: su; return found -/
def toldR (t : Str) (cat : Str → Option Bool) (su : Sx) (n : Nat) (r : Res W) : Res W := match r with
  | .ok w S => .ok (.tup [.str t, w]) S
  | .exn c fs S => (match cat c with
    | some true => (match su c fs (List.replicate n none) S with
      | .nx e2 S2 => (match e2[1]? with
        | some (some w) => .ok w S2
        | _ => .bad)
      | _ => .bad)
    | _ => .bad)
  | .bad => .bad
section
variable {X : Cx} {cm : CM} {xw : WX}
/-- what is wanted of an exception of the lambda -/
def E1w (K : PySem.W.Frag) (cm : CM) (cv : Value) (su : Sx) (n : Nat) (Q : VK) : XK := fun cls d H2 => ∃ b, PySem.W.exmOne K cls cv = some b ∧ (b = false → False) ∧ (b = true → ∀ σ' : L2.St, σ'.length = n → ∀ a, H2 a = none →
      liftU ⟨K, cm⟩ 2 a cls d su { nx := fun σ2 H3 => ∃ v, (σ2.set 2 none)[1]? = some (some v) ∧ Q v H3, rt := fun _ _ => False, bk := fun _ _ => False, ct := fun _ _ => False } (σ'.set 2 (some (.ref a))) H2)
/-- what that def makes of the lambda's reading -/
def TTw (K : PySem.W.Frag) (cm : CM) (cv : Value) (o t : Str) (su : Sx) (n : Nat) : (XK → Hp → VK → Prop) → Hp → VK → Prop := fun tl H Q =>
  ∀ (σ0 : L2.St), σ0.length = n → ∀ p0, H p0 = none → tl (E1w K cm cv su n Q) (upd H p0 (.tup [.str o])) (fun v H2 => ([V.str t, v] : List V).length ≤ sizeLine ∧ ∀ p, H2 p = none → ∃ v', (σ0.set 1 (some (.ref p)))[1]? = some (some v') ∧ Q v' (upd H2 p (.tup [.str t, v])))
theorem SPost.imp {g : G} {xw : WX} {ρ : List Addr} {H : Hp} {D D' : Ends} {r : SRes} (P : SPost g xw ρ H D r) (h1 : ∀ σ H, D.nx σ H → D'.nx σ H) (h2 : ∀ v H, D.rt v H → D'.rt v H) (h3 : ∀ σ H, D.bk σ H → D'.bk σ H) (h4 : ∀ σ H, D.ct σ H → D'.ct σ H) : SPost g xw ρ H D' r := by
  cases r with
  | nx e S => exact fun ρ' σ' H' st R => h1 _ _ (P ρ' σ' H' st R)
  | rt e S => exact fun ρ' σ' H' st R r => h2 _ _ (P ρ' σ' H' st R r)
  | bk e S => exact fun ρ' σ' H' st R => h3 _ _ (P ρ' σ' H' st R)
  | ct e S => exact fun ρ' σ' H' st R => h4 _ _ (P ρ' σ' H' st R)
  | exn c fs e S => exact P
  | bad => exact P
theorem liftU_imp {g : G} {i : Nat} {a : Addr} {cls : Value} {d : Option Addr} {su : Sx} {D D' : Ends} {σ : L2.St} {H : Hp} (h : liftU g i a cls d su D σ H) (h1 : ∀ σ H, D.nx σ H → D'.nx σ H) (h2 : ∀ v H, D.rt v H → D'.rt v H) (h3 : ∀ σ H, D.bk σ H → D'.bk σ H) (h4 : ∀ σ H, D.ct σ H → D'.ct σ H) : liftU g i a cls d su D' σ H := by
  obtain ⟨ρ, env, S, c, fs, R, U, P⟩ := h
  exact ⟨ρ, env, S, c, fs, R, U, P.imp h1 h2 h3 h4⟩
theorem told_gives {Ng : List Str} {x a n q fn xc : Str} {sg : Scope} {g : Addr} {cdg cv : Value} {o t : Str} {su : Sx} {s1 sA s3 : Stmt} {b0 : Stmt} {suite : List Stmt} {np pos pos' p1 p2 : Pos}
    (h0 : ∀ f : Addr, (L2.start Ng [V.ref f])[0]? = some (some (V.ref f))) (hN : Ng.Nodup) (hlen : 3 ≤ Ng.length) (hi : Ng[2]? = some n) (hln : sg.names.lookup n = some .local) (hge : sg.names.lookup xc = some .globalImplicit) (hde : (xc == ("__debug__" : Str)) = false) (hme : X.mg xc = some cv)
    (hs1 : ∀ (s : Shared) (H : Hp), PS (cxOf C8.CX0 X.prog X.w X.K X.mg X.base Ng x sg g cdg X.A X.stack s H C8.E0).nox s1 (tAsg (tTup (tCons (tC (.str o)) tNil)) (L2.gName 1)))
    (hs2 : ∀ (s : Shared) (H : Hp) (pn : List (Addr × Obj)) (xe : Value → Shared → Prop) (tc : TE), PE ((cxOf C8.CX0 X.prog X.w X.K X.mg X.base Ng x sg g cdg X.A X.stack s H C8.E0).tr pn xe) (.Call (.Name a p1) [] [] p2) tc →
      PS ((cxOf C8.CX0 X.prog X.w X.K X.mg X.base Ng x sg g cdg X.A X.stack s H C8.E0).tr pn xe) sA (tAsg (tTup (tCons (tC (.str t)) (tCons tc tNil))) (L2.gName 1)))
    (hs3 : ∀ (s : Shared) (H : Hp), PS (cxOf C8.CX0 X.prog X.w X.K X.mg X.base Ng x sg g cdg X.A X.stack s H C8.E0).nox s3 (tRet (tVar 1)))
    (hsu : ∀ (s : Shared) (H : Hp) (a : Addr) (oe : Obj) (cls : Value) (d : Option Addr) (pn : List (Addr × Obj)), Zc cls d oe → (∃ vs, oe.data = .fields vs) →
      PSs ((cxOf C8.CX0 X.prog X.w X.K X.mg X.base Ng x sg g cdg X.A X.stack s H C8.E0).nox.suite a ((a, oe) :: pn)) (b0 :: suite) (liftU ⟨X.K, cm⟩ 2 a cls d su)) :
    LamX.GivesTo X Ng x sg g cdg [s1, .Try [sA] [.ExceptHandler (some (.Name xc np)) (some n) (b0 :: suite) pos'] [] [] pos, s3] a q (TTw X.K cm cv o t su Ng.length) := by
  intro f c' s H Q tl act hc h
  have hgl : Gl (cxOf C8.CX0 X.prog X.w X.K X.mg X.base Ng x sg g cdg X.A X.stack s H C8.E0).nox xc := hge
  refine ⟨_, pss_cons (hs1 s H) (pss_cons (ps_try_as (X := (cxOf C8.CX0 X.prog X.w X.K X.mg X.base Ng x sg g cdg X.A X.stack s H C8.E0).nox) (c := cv) (i := 2) (n := n)
      (tb := fun W D σ H => ∃ Ech : XK, (∀ cls d (σ' : L2.St) H', Ech cls d H' → σ'.length = Ng.length → W cls d σ' H') ∧ tAsg (tTup (tCons (tC (.str t)) (tCons (fun σZ HZ Q => σZ[0]? = some (some (.ref f)) ∧ HZ c' = some (LamX.CodeO c' q) ∧ tl Ech HZ Q) tNil))) (L2.gName 1) D σ H)
      (ts := fun a cls d => liftU ⟨X.K, cm⟩ 2 a cls d su) (Wout := fun _ _ _ _ => False) rfl rfl hN hi hln ⟨hgl, hde, .inl hme⟩ LamX.takes0 (fun W pn xe tk _ => ?_) (fun a oe cls d pn hz hf => hsu s H a oe cls d pn hz hf)) (pss_one (hs3 s H))), ?_⟩
  · refine ⟨fun pins s' σ H' D I h' => ?_⟩
    obtain ⟨Ech, hW, h2⟩ := h'
    have hp := act _ pn xe Ech p1 p2 (takes_len tk) (fun cls d σ' H' z => hW cls d σ' H' z)
    exact (pss_one (hs2 s H pn xe _ hp)).run pins s' σ H' D I h2
  · have h0l : 1 ≤ sizeLine := by rw [sizeLine_eq]; decide
    refine ⟨h0l, fun p0 hp0 => ?_⟩
    have hcc : upd H p0 (.tup [.str o]) c' = some (LamX.CodeO c' q) := by rw [upd_ne (ne_of_none hc hp0)]; exact hc
    have hl : ((L2.start Ng [V.ref f]).set 1 (some (.ref p0))).length = Ng.length := by rw [List.length_set]; unfold L2.start; simp; omega
    refine ⟨E1w X.K cm cv su Ng.length Q, fun cls d σ' H' z hl' => ?_, ?_, hcc, h _ hl p0 hp0⟩
    · obtain ⟨b, h1, h2, h3⟩ := z
      refine ⟨b, h1, fun hb a ha => ?_, fun hb => h2 hb⟩
      exact liftU_imp (h3 hb σ' hl' a ha) (fun σ2 H3 z => z) (fun _ _ z => z.elim) (fun _ _ z => z.elim) (fun _ _ z => z.elim)
    · show (((L2.start Ng [V.ref f]).set 1 (some (V.ref p0)))[0]?) = _
      rw [List.getElem?_set_ne (by decide)]; exact h0 f
/-- x(lambda: body), x such a def -/
def eTold (t : Str) (cat : Str → Option Bool) (su : Sx) (n : Nat) (lf : Ev) : Ev := fun env S => if 3 ≤ n then toldR t cat su n (lf env S) else .bad
theorem ew_told {Ng : List Str} {x a n fn xc : Str} {sg : Scope} {g c P : Addr} {cv : Value} {o t : Str} {su : Sx} {bg : List Stmt} {lf : Ev} {k : Nat} {pg : Arguments} {cat : Str → Option Bool}
    {dV kV doc pm cdv ct oc : Value} {an od : Option Addr} {osl : Array (Option Value)} {params : Arguments} {body : Expr} {scope : Scope} {p lpos pos : Pos}
    (hk : ∀ c b, cat c = some b → PySem.W.exmOne X.K (.ref (cm c)) cv = some b)
    (hg : Gl X x) (hm : X.mg x = some (.ref g)) (hkp : PySem.W.keepIn X.K (.ref g) = true)
    (lk : X.K.lookup g = some ⟨oc, od, .func (PySem.W.fnOf x x pg bg sg dV kV doc pm an cdv ct), osl⟩) (hcg : PySem.W.codeIn X.K cdv x = true) (hb : L2.Binds X.K (PySem.W.fnOf x x pg bg sg dV kV doc pm an cdv ct) [a] []) (Sg : FnScope Ng [a] sg) (hNg : Ng[0]? = some a) (hva : Vis sg a)
    (hG : LamX.GivesTo X Ng x sg g cdv bg a (X.env.qual ++ "<lambda>") (TTw X.K cm cv o t su Ng.length))
    (TB : LamX.TabB X.base X.mg c P) (hcode : X.env.code = .ref c) (hmT : (P, X.env.qual ++ "<lambda>") ∈ cm.T) (hu : ∀ p ∈ cm.T, p.1 = P → p.2 = X.env.qual ++ "<lambda>") (hr : Room (k + 2) X.A) (L : LamX.LamS X.env.scope scope) (hdef : defaultsOf params X.env = ([], []))
    (hbind : ∀ (q : Str) (cl : List (Str × Addr)) (pm cv ctv : Value), bindArgs (PySem.W.kla_fn "<lambda>" q params body scope cl pm cv ctv) ⟨[], []⟩ = pure [])
    (hbody : ∀ (A : Around) (outer : List PySem.Env) (s : Shared) (H : Hp) (E : XK) (f c' : Addr), Room k (A.deeper (LamX.lamEnv X scope s.heap.objs.size f c')) → EW (LamX.lamCx X A outer s H E scope f c') cm (xwE E) body lf)
    (hdb : (x == ("__debug__" : Str)) = false := by decide) (hd : (a == ("__debug__" : Str)) = false := by decide) (hcd : (a == ("__classdict__" : Str)) = false := by decide) :
    EW X cm xw (.Call (.Name x p) [.Lambda params body scope lpos] [] pos) (eTold t cat su Ng.length lf) := by
  refine PE.wimp (LamX.pe_lamcall (T := cm.T) (TT := TTw X.K cm cv o t su Ng.length) (t := fun E => liftE ⟨X.K, cm⟩ (xwE E) lf) hg hm hkp lk hcg hb Sg hNg hva hG TB hcode hmT hu hr L hdef hbind hbody hdb hd hcd) fun σ H Q ⟨ρ, env, S, R, P⟩ => ?_
  refine ⟨R.s.tb, fun H1 eN T1 σ0 hl0 p0 hp0 => ?_⟩
  unfold eTold at P
  split at P
  rotate_left
  · exact P.elim
  rename_i h3
  have st0 : Step ρ H ρ (upd H1 p0 (.tup [.str o])) := (Step.extN eN).trans (Step.new hp0)
  have R0 : Rel ⟨X.K, cm⟩ ρ S env σ (upd H1 p0 (.tup [.str o])) := R.step st0 ((R.s.extN eN T1).new hp0)
  refine ⟨ρ, env, S, R0, ?_⟩
  have P1 := EPost.step st0 P
  clear P
  revert P1
  cases lf env S with
  | bad => intro P; exact P.elim
  | ok w S1 =>
    intro P ρ1 v H2 st R1 r1
    refine ⟨by show 2 ≤ sizeLine; rw [sizeLine_eq]; decide, fun p hp => ⟨.ref p, List.getElem?_set_self (by omega), ?_⟩⟩
    have st2 : Step ρ1 H2 ρ1 (upd H2 p (.tup [.str t, v])) := Step.new hp
    exact P ρ1 _ _ (st.trans st2) (R1.step st2 (R1.s.new hp)) (.tup (.inl (.inl upd_same)) (.cons (.str t) (.cons (r1.mono st2) .nil)))
  | exn c fs S1 =>
    intro P ρ1 d H2 st R1 x1
    unfold toldR at P
    dsimp only at P
    cases hcat : cat c with
    | none => rw [hcat] at P; exact P.elim
    | some b =>
      rw [hcat] at P
      cases b with
      | false => exact P.elim
      | true =>
        refine ⟨true, hk c true hcat, fun z => Bool.noConfusion z, fun _ σ' hl' a ha => ?_⟩
        refine ⟨ρ1, List.replicate Ng.length none, S1, c, fs, ⟨R1.s, ⟨by rw [List.length_replicate, List.length_set]; exact hl'.symm, fun i w e => ?_⟩⟩, ⟨List.getElem?_set_self (by omega), rfl, x1⟩, ?_⟩
        · have := List.eq_of_mem_replicate (List.mem_of_getElem? e)
          cases this
        · have P2 := EPost.step st P
          revert P2
          dsimp only
          cases su c fs (List.replicate Ng.length none) S1 with
          | nx e2 S2 =>
            intro P2 ρ2 σ2 H3 st2 R2
            dsimp only at P2
            split at P2
            · rename_i w hw
              obtain ⟨v, h1, h2⟩ := R2.e.get 1 w hw
              refine ⟨v, by rw [List.getElem?_set_ne (by decide)]; exact h1, ?_⟩
              exact P2 ρ2 v H3 st2 ⟨R2.s, R1.e.mono st2⟩ h2
            · exact P2.elim
          | bk e2 S2 => intro P2; exact P2.elim
          | ct e2 S2 => intro P2; exact P2.elim
          | rt w S2 => intro P2; exact P2.elim
          | exn c fs e2 S2 => intro P2; exact P2.elim
          | bad => intro P2; exact P2.elim
end
end HW
namespace HW
open PySem L2
open PyProof.Rows hiding St
/-! ### list(enumerate(..)) -/
section
variable {prog : Program} {w : World} {A : Around} {E : Value → Shared → Prop} {s : Shared}
theorem wpAny_alive {M : Model} {a : Addr} {Q : Option Obj → Shared → Prop} (h : Q (s.heap.get? a) s) : wpAny M A (loadIfAlive a) Q E s := fun Γ p hΓ => by
  unfold loadIfAlive
  exact h
/-- an enumerate object that goes: its pair is free, or handed out and there -/
def EnS (h : Heap) (e it : Addr) (i : Int) : Prop := (∃ old, IsEnum h e it i old) ∨ ∃ (T : Addr) (f1 old : Value), h.get? e = some { cls := .type "enumerate", dict := none, data := .fields #[rawInt T, f1, .ref it, rawInt i, .none, old], slots := #[] } ∧ (∃ o, h.get? T = some o) ∧ T ≠ e ∧ T ≠ it
theorem enum_next_taken {e it T : Addr} {f1 old : Value} {fp : List Addr} {n i : Nat} {P : Nat → Value → Prop} {St : Nat → Heap → Prop} {Q : Value → Shared → Prop}
    (D : Draws prog w A it fp n P St) (he : s.heap.get? e = some { cls := .type "enumerate", dict := none, data := .fields #[rawInt T, f1, .ref it, rawInt i, .none, old], slots := #[] }) (hT : ∃ o, s.heap.get? T = some o) (hTe : T ≠ e) (hTi : T ≠ it)
    (hst : St i s.heap) (hlt : i < n) (hne : e ≠ it) (hef : e ∉ fp)
    (hQ : ∀ x h' tk, P i x → EnS h' e it ((i : Int) + 1) → St (i + 1) h' →
      h'.get? s.heap.objs.size = some { cls := .type "tuple", data := .seq #[.int i tk, x] } → h'.objs.size = s.heap.objs.size + 1 →
      (∀ b o, b ≠ e → b ≠ it → s.heap.get? b = some o → h'.get? b = some o) → Q (.ref s.heap.objs.size) { s with heap := h', toks := tk + 1 }) :
    wpAny (model prog w) A (Builtin.«enumerate.__next__» ⟨[.ref e], []⟩) (fun fin s' => ∃ v, fin = .done (.ret v) ∧ Q v s') E s := by
  obtain ⟨hp, g, d, tk₀, os⟩ := s
  obtain ⟨oT, hT⟩ := hT
  show wpAny _ _ (field (.ref e) 2 >>= _) _ _ _
  refine wpAny_bind (wpAny_field he rfl (x := .ref it) rfl ?_)
  refine wpAny_bind (D.item i _ _ _ hlt hst fun x h1 tk hPx hit1 hs1 => ?_)
  replace hs1 : Heap.SameBut it hp h1 := hs1
  have he1 := (hs1.2 e hne).trans he
  have hT1 := (hs1.2 T hTi).trans hT
  show wpAny _ _ (field (.ref e) 3 >>= _) _ _ ⟨h1, g, d, tk, os⟩
  refine wpAny_bind (wpAny_field he1 rfl (x := rawInt i) rfl ?_)
  show wpAny _ _ (field (.ref e) 4 >>= _) _ _ ⟨h1, g, d, tk, os⟩
  refine wpAny_bind (wpAny_field he1 rfl (x := .none) rfl ?_)
  show wpAny _ _ (mkInt i >>= _) _ _ ⟨h1, g, d, tk, os⟩
  refine wpAny_bind (wpAny_mkInt ?_)
  show wpAny _ _ (setField (.ref e) 3 (rawInt ((i : Int) + 1)) >>= _) _ _ ⟨h1, g, d, tk + 1, os⟩
  refine wpAny_bind (wpAny_setField_rec he1 (by simp) fun h2 he2 hs2 => ?_)
  replace hs2 : Heap.SameBut e h1 h2 := hs2
  replace he2 : h2.get? e = some { cls := .type "enumerate", dict := none, data := .fields #[rawInt T, f1, .ref it, rawInt ((i : Int) + 1), .none, old], slots := #[] } := he2
  show wpAny _ _ (setField (.ref e) 4 .none >>= _) _ _ ⟨h2, g, d, tk + 1, os⟩
  refine wpAny_bind (wpAny_setField_rec he2 (by simp) fun h3 he3 hs3 => ?_)
  replace hs3 : Heap.SameBut e h2 h3 := hs3
  replace he3 : h3.get? e = some { cls := .type "enumerate", dict := none, data := .fields #[rawInt T, f1, .ref it, rawInt ((i : Int) + 1), .none, old], slots := #[] } := he3
  have hT3 := (hs3.2 T hTe).trans ((hs2.2 T hTe).trans hT1)
  show wpAny _ _ (newTuple [.int i tk, x] >>= _) _ _ ⟨h3, g, d, tk + 1, os⟩
  refine wpAny_bind (wpAny_newTuple ?_)
  have hsz : h3.objs.size = hp.objs.size := by rw [hs3.1, hs2.1, hs1.1]
  have hel : e < hp.objs.size := Heap.lt_size he
  have he4 : (h3.push { cls := .type "tuple", data := .seq #[.int i tk, x] }).get? e = some { cls := .type "enumerate", dict := none, data := .fields #[rawInt T, f1, .ref it, rawInt ((i : Int) + 1), .none, old], slots := #[] } := Heap.get?_push_of_some _ he3
  have hT4 : (h3.push { cls := .type "tuple", data := .seq #[.int i tk, x] }).get? T = some oT := Heap.get?_push_of_some _ hT3
  have ht4 : (h3.push { cls := .type "tuple", data := .seq #[.int i tk, x] }).get? hp.objs.size = some { cls := .type "tuple", data := .seq #[.int i tk, x] } := by rw [← hsz]; exact Heap.get?_push_size _ rfl
  have hz4 : (h3.push { cls := .type "tuple", data := .seq #[.int i tk, x] }).objs.size = hp.objs.size + 1 := by rw [Heap.size_push, hsz]
  have hk4 : ∀ b o, b ≠ e → b ≠ it → hp.get? b = some o → (h3.push { cls := .type "tuple", data := .seq #[.int i tk, x] }).get? b = some o := fun b o hbe hbi hb =>
    Heap.get?_push_of_some _ (hs3.extBut b o hbe (hs2.extBut b o hbe (hs1.extBut b o hbi hb)))
  have hit4 : St (i + 1) (h3.push { cls := .type "tuple", data := .seq #[.int i tk, x] }) := D.frame _ _ _ hit1 fun b hb o y => by
    have hbe : b ≠ e := fun q => hef (q ▸ hb)
    exact Heap.get?_push_of_some _ (hs3.extBut b o hbe (hs2.extBut b o hbe y))
  generalize h3.push { cls := .type "tuple", data := .seq #[.int i tk, x] } = h4 at *
  show wpAny _ _ (Builtin.SmallTypes.ownedTupleIsFree (.ref e) >>= _) _ _ ⟨h4, g, d, tk + 1, os⟩
  rw [hsz]
  refine wpAny_bind ?_
  unfold Builtin.SmallTypes.ownedTupleIsFree
  refine wpAny_bind (wpAny_field he4 rfl (x := rawInt T) rfl ?_)
  show wpAny _ _ (loadIfAlive (T : Int).toNat >>= _) _ _ ⟨h4, g, d, tk + 1, os⟩
  refine wpAny_bind (wpAny_alive ?_)
  have e0 : (h4.get? (T : Int).toNat).isNone = false := by
    have : ((T : Int).toNat : Addr) = T := Int.toNat_natCast T
    rw [this, hT4]; rfl
  simp only [e0]
  rw [if_neg Bool.false_ne_true]
  refine wpAny_bind (wpAny_field he4 rfl (x := f1) rfl ?_)
  have ret_ : ∀ (h5 : Heap), EnS h5 e it ((i : Int) + 1) → Heap.SameBut e h4 h5 → wpAny (model prog w) A
        (if false = true then do
          rule "enumerate.__next__.owned-tuple-again"
          let old ← field (Value.ref e) 5
          setField (Value.ref e) 5 x
          Builtin.SmallTypes.ownedTupleHandOut (Value.ref e) (Value.ref hp.objs.size)
          letGo [old] [Value.ref hp.objs.size]
          ret (Value.ref hp.objs.size)
        else ret (Value.ref hp.objs.size))
        (fun fin s' => ∃ v, fin = .done (.ret v) ∧ Q v s') E ⟨h5, g, d, tk + 1, os⟩ := fun h5 en sb => by
    rw [if_neg Bool.false_ne_true]
    refine wpAny_pure ⟨_, rfl, hQ x h5 tk hPx en ?_ ?_ ?_ ?_⟩
    · exact D.frame _ _ _ hit4 fun b hb o y => (sb.2 b fun q => hef (q ▸ hb)).trans y
    · exact (sb.2 _ (Nat.ne_of_gt hel)).trans ht4
    · rw [sb.1, hz4]
    · exact fun b o hbe hbi hb => (sb.2 b hbe).trans (hk4 b o hbe hbi hb)
  split
  · refine wpAny_bind (wpAny_setField_rec he4 (by simp) fun h5 he5 hs5 => ?_)
    replace hs5 : Heap.SameBut e h4 h5 := hs5
    replace he5 : h5.get? e = some { cls := .type "enumerate", dict := none, data := .fields #[rawInt T, .bool true, .ref it, rawInt ((i : Int) + 1), .none, old], slots := #[] } := he5
    exact wpAny_pure (ret_ h5 (.inr ⟨T, _, _, he5, ⟨_, (hs5.2 T hTe).trans hT4⟩, hTe, hTi⟩) hs5)
  · exact wpAny_pure (ret_ h4 (.inr ⟨T, _, _, he4, ⟨_, hT4⟩, hTe, hTi⟩) ⟨rfl, fun _ _ => rfl⟩)
theorem enum_next {e it : Addr} {fp : List Addr} {n i : Nat} {P : Nat → Value → Prop} {St : Nat → Heap → Prop} {Q : Option Value → Shared → Prop}
    (D : Draws prog w A.in1 it fp n P St) (he : EnS s.heap e it i) (hst : St i s.heap) (hlt : i < n) (hne : e ≠ it) (hef : e ∉ fp)
    (hQ : ∀ x h' tk, P i x → EnS h' e it ((i : Int) + 1) → St (i + 1) h' →
      h'.get? s.heap.objs.size = some { cls := .type "tuple", data := .seq #[.int i tk, x] } → h'.objs.size = s.heap.objs.size + 1 →
      (∀ b o, b ≠ e → b ≠ it → s.heap.get? b = some o → h'.get? b = some o) → Q (some (.ref s.heap.objs.size)) { s with heap := h', toks := tk + 1 }) :
    wpAny (model prog w) A (pyNext (.ref e)) Q E s := by
  rcases he with ⟨old, he⟩ | ⟨T, f1, old, he, hT, hTe, hTi⟩
  · refine wpAny_pyNext_enum_itemD D he hst hlt hne hef fun x h' tk a b c d k q => hQ x h' tk a (.inr ⟨_, _, _, b, ⟨_, d⟩, ?_, ?_⟩) c d k q
    · exact Nat.ne_of_gt (Heap.lt_size he)
    · obtain ⟨_, y⟩ := D.live _ _ hst
      exact Nat.ne_of_gt (Heap.lt_size y)
  · have hTy : s.TypeIs (.ref e) "enumerate" := ⟨_, he, rfl⟩
    unfold pyNext
    exact wpAny_bind (wpAny_attempt (wpAny_callSpecial?_slot (name := Str.ofString "__next__") hTy F.slot_enumerate_next
      (wpAny_call_entry F.slot_enumerate_next hTy F.entry_enumerate_next
        (enum_next_taken D he hT hTe hTi hst hlt hne hef fun x h' tk a b c d k q => wpAny_pure (hQ x h' tk a b c d k q)) (F.args_enumerate_next_1 _))))
theorem enum_end {e it : Addr} {fp : List Addr} {n : Nat} {P : Nat → Value → Prop} {St : Nat → Heap → Prop} {i : Int} {Q : Option Value → Shared → Prop}
    (D : Draws prog w A.in1 it fp n P St) (he : EnS s.heap e it i) (hst : St n s.heap)
    (hQ : ∀ h', Heap.ExtBut it s.heap h' → Q none { s with heap := h' }) : wpAny (model prog w) A (pyNext (.ref e)) Q E s := by
  rcases he with ⟨old, he⟩ | ⟨T, f1, old, he, hT, hTe, hTi⟩
  · exact wpAny_pyNext_enum_endD D he hst hQ
  · have hTy : s.TypeIs (.ref e) "enumerate" := ⟨_, he, rfl⟩
    unfold pyNext
    refine wpAny_bind (wpAny_attempt (wpAny_callSpecial?_slot (name := Str.ofString "__next__") hTy F.slot_enumerate_next
      (wpAny_call_entry F.slot_enumerate_next hTy F.entry_enumerate_next ?_ (F.args_enumerate_next_1 _))))
    show wpAny _ _ (field (.ref e) 2 >>= _) _ _ _
    refine wpAny_bind (wpAny_field he rfl (x := .ref it) rfl ?_)
    refine wpAny_bind (D.done _ _ _ hst fun h' x he' hx' => ?_)
    obtain ⟨o, ho, hc⟩ := hx'
    refine wpAny_bind (wpAny_isInstance (T := "StopIteration") (b := true) ⟨o, ho, hc⟩ isSubtype_stop ?_)
    exact wpAny_pure (hQ _ he')
theorem enum_no_len : typeLookup (.type "enumerate") "__len__" = pure none := by rw [typeLookup_type, builtinLookup_eq_fast]; kernel_rfl
theorem enum_no_hint : typeLookup (.type "enumerate") "__length_hint__" = pure none := by rw [typeLookup_type, builtinLookup_eq_fast]; kernel_rfl
/-- what has been listed: new pairs -/
structure EnAcc (items : Nat → Value → Prop) (S e it : Addr) (lo i : Nat) (acc : Array Value) (h : Heap) : Prop where
  size : acc.size = i
  at_ : ∀ (j : Nat) (v : Value), acc[j]? = some v → ∃ (T : Addr) (t : Tok) (x : Value), v = .ref T ∧ items j x ∧ h.get? T = some { cls := .type "tuple", data := .seq #[.int j t, x] } ∧ T ≠ S ∧ T ≠ e ∧ T ≠ it ∧ lo ≤ T
  nd : ∀ (j k : Nat) (v : Value), acc[j]? = some v → acc[k]? = some v → j = k
theorem enum_loop {e it : Addr} {fp : List Addr} {n : Nat} {P : Nat → Value → Prop} {St : Nat → Heap → Prop} {R : Result → Shared → Prop} (D : Draws prog w A.in1.in1 it fp n P St) (S : Addr) (res : Value) (hn : n ≤ sizeLine) (hne : e ≠ it) (hef : e ∉ fp) (hSe : S ≠ e) (hSi : S ≠ it) (hSf : S ∉ fp) (lo : Nat) (hif : it ∈ fp) :
    ∀ (k i : Nat) (s : Shared) (acc : Array Value) (c : Nat), n - i = k → i ≤ n → EnS s.heap e it i → St i s.heap → lo ≤ s.heap.objs.size → s.heap.get? S = some { cls := .type "list", dict := none, data := .seq acc c, slots := #[] } → EnAcc P S e it lo i acc s.heap →
    (∀ h' tk acc' c', (∀ b o, b ≠ S → b ≠ e → b ≠ it → s.heap.get? b = some o → h'.get? b = some o) → h'.get? S = some { cls := .type "list", dict := none, data := .seq acc' c', slots := #[] } → EnAcc P S e it lo n acc' h' → R (.ok (.ret res)) { s with heap := h', toks := tk }) →
    codeAny (model prog w) A (.builtin "list.extend.loop" ⟨[.ref S, .ref e, res], []⟩) R s := by
  intro k
  induction k with
  | zero =>
    intro i s acc c hk hi hen hst hlo hS hacc hR
    have hin : i = n := by omega
    subst hin
    refine codeAny_builtin F.entry_extend_loop ?_
    rw [Around.under_plainId F.plain_extend_loop _]
    show wpAny _ A.in1 (pyNext (.ref e) >>= _) _ _ s
    refine wpAny_bind (enum_end D hen hst fun h' hx => ?_)
    refine wpAny_pure (hR h' s.toks acc c (fun b o _ _ hbi y => hx b o hbi y) (hx S _ hSi hS) ⟨hacc.size, fun j v hj => ?_, hacc.nd⟩)
    obtain ⟨T, t, x, h1, h2, h3, h4, h5, h6, h7⟩ := hacc.at_ j v hj
    exact ⟨T, t, x, h1, h2, hx T _ h6 h3, h4, h5, h6, h7⟩
  | succ k ih =>
    intro i s acc c hk hi hen hst hlo hS hacc hR
    have hlt : i < n := by omega
    refine codeAny_builtin F.entry_extend_loop ?_
    rw [Around.under_plainId F.plain_extend_loop _]
    show wpAny _ A.in1 (pyNext (.ref e) >>= _) _ _ s
    refine wpAny_bind (enum_next D hen hst hlt hne hef fun x h' tk hP hen' hst' hT hsz hk' => ?_)
    have hS' := hk' S _ hSe hSi hS
    have hSl : S < s.heap.objs.size := Heap.lt_size hS
    have hel : e < s.heap.objs.size := by
      rcases hen with ⟨old, he⟩ | ⟨T, f1, old, he, _⟩ <;> exact Heap.lt_size he
    have hil : it < s.heap.objs.size := by obtain ⟨_, y⟩ := D.live _ _ hst; exact Heap.lt_size y
    show wpAny _ A.in1 (updateSeq S (·.push (.ref s.heap.objs.size)) >>= _) _ _ _
    refine wpAny_bind ?_
    have up : ∀ b o, b ≠ S → h'.get? b = some o → (h'.update S (Obj.mapSeq (·.push (.ref s.heap.objs.size)))).get? b = some o := fun b o hb y => (Heap.get?_update_other _ _ (Ne.symm hb)).trans y
    refine wpAny_updateSeq hS' rfl (wpAny_pure ⟨plainId_quiet F.plain_extend_loop _, ih (i + 1) _ (acc.push (.ref s.heap.objs.size)) _ (by omega) hlt ?_ (D.frame _ _ _ hst' fun b hb o y => up b o (fun z => hSf (z ▸ hb)) y) ?_ (Heap.get?_update_self _ hS' rfl) ?_ fun h'' tk'' acc' c' hk'' hS'' hacc' => ?_⟩)
      (by rw [hacc.size]; omega) (by show (acc.push _).size ≤ sizeLine + 1; rw [Array.size_push, hacc.size]; omega)
    · rcases hen' with ⟨old, he⟩ | ⟨T, f1, old, he, ⟨oT, hT'⟩, hTe, hTi⟩
      · exact .inl ⟨old, up e _ (Ne.symm hSe) (by simpa using he)⟩
      · refine .inr ⟨T, f1, old, up e _ (Ne.symm hSe) (by simpa using he), ?_, hTe, hTi⟩
        by_cases hTS : T = S
        · subst hTS; exact ⟨_, Heap.get?_update_self _ hS' rfl⟩
        · exact ⟨oT, up T _ hTS hT'⟩
    · show lo ≤ (h'.update S _).objs.size
      rw [Heap.size_update, hsz]; omega
    · refine ⟨by rw [Array.size_push, hacc.size], fun j v hj => ?_, fun j l v hj hl => ?_⟩
      · rw [Array.getElem?_push] at hj
        split at hj
        · rename_i hjs
          cases hj
          rw [hacc.size] at hjs
          subst hjs
          exact ⟨s.heap.objs.size, _, x, rfl, hP, up _ _ (Nat.ne_of_gt hSl) hT, Nat.ne_of_gt hSl, Nat.ne_of_gt hel, Nat.ne_of_gt hil, hlo⟩
        · obtain ⟨T, t, y, h1, h2, h3, h4, h5, h6, h7⟩ := hacc.at_ j v hj
          exact ⟨T, t, y, h1, h2, up T _ h4 (hk' T _ h5 h6 h3), h4, h5, h6, h7⟩
      · have old_ : ∀ m, acc[m]? = some v → v ≠ .ref s.heap.objs.size := fun m hm z => by
          obtain ⟨T, t, y, h1, h2, h3, _⟩ := hacc.at_ m v hm
          rw [h1] at z
          have z' : T = s.heap.objs.size := Value.ref.inj z
          exact Nat.ne_of_lt (Heap.lt_size h3) z'
        rw [Array.getElem?_push] at hj hl
        split at hj
        · rename_i h1
          split at hl
          · rename_i h2; rw [h1, h2]
          · cases hj; exact absurd rfl (old_ _ hl)
        · split at hl
          · cases hl; exact absurd rfl (old_ _ hj)
          · exact hacc.nd j l v hj hl
    · refine hR h'' tk'' acc' c' (fun b o hb hbe hbi y => hk'' b o hb hbe hbi (up b o hb (hk' b o hbe hbi y))) hS'' hacc'
end

section
variable {prog : Program} {w : World} {A : Around} {E : Value → Shared → Prop} {s : Shared}
theorem call_list_enum {e it : Addr} {fp : List Addr} {n : Nat} {P : Nat → Value → Prop} {St : Nat → Heap → Prop} {Q : Value → Shared → Prop} (D : Draws prog w A.in1.in1.in1 it fp n P St) (hn : n ≤ sizeLine) (hne : e ≠ it) (hef : e ∉ fp) (hif : it ∈ fp) (hfp : ∀ b ∈ fp, b < s.heap.objs.size)
    (hen0 : ∃ old, IsEnum s.heap e it 0 old) (hst : St 0 s.heap)
    (hQ : ∀ h' tk acc' c', (∀ b o, b ≠ e → b ≠ it → s.heap.get? b = some o → h'.get? b = some o) → h'.get? s.heap.objs.size = some { cls := .type "list", dict := none, data := .seq acc' c', slots := #[] } → EnAcc P s.heap.objs.size e it s.heap.objs.size n acc' h' → Q (.ref s.heap.objs.size) { s with heap := h', toks := tk }) :
    wpAny (model prog w) A (call (.type "list") [.ref e]) Q E s := by
  have hen : EnS s.heap e it 0 := .inl hen0
  have hel : e < s.heap.objs.size := by obtain ⟨old, he⟩ := hen0; exact Heap.lt_size he
  have hil : it < s.heap.objs.size := hfp it hif
  have hSe : s.heap.objs.size ≠ e := Nat.ne_of_gt hel
  have hSi : s.heap.objs.size ≠ it := Nat.ne_of_gt hil
  have hSf : s.heap.objs.size ∉ fp := fun hm => Nat.lt_irrefl _ (hfp _ hm)
  refine callType_codes (Q₁ := fun obj s₁ => obj = .ref s.heap.objs.size ∧ s₁ = { s with heap := s.heap.push { cls := .type "list", data := .seq #[] } }) F.called_list (F.typeCall_list_1 _) F.entry_list_init
    (code_list_new _ ⟨rfl, rfl⟩) fun obj s₁ h₁ => ?_
  obtain ⟨rfl, rfl⟩ := h₁
  have hS : (s.heap.push { cls := .type "list", data := .seq #[] }).get? s.heap.objs.size = some { cls := .type "list", data := .seq #[] } := Heap.get?_push_size _ rfl
  have tyE : ∀ h : Heap, EnS h e it 0 → ∀ t : Nat, ({ s with heap := h, toks := t } : Shared).TypeIs (.ref e) "enumerate" := fun h x t => by
    rcases x with ⟨old, he⟩ | ⟨T, f1, old, he, _⟩ <;> exact ⟨_, he, rfl⟩
  have enK : ∀ h h' : Heap, EnS h e it 0 → (∀ b o, b ≠ s.heap.objs.size → h.get? b = some o → h'.get? b = some o) → (∀ o, h.get? s.heap.objs.size = some o → ∃ o', h'.get? s.heap.objs.size = some o') → EnS h' e it 0 := fun h h' x k k2 => by
    rcases x with ⟨old, he⟩ | ⟨T, f1, old, he, ⟨oT, hT⟩, h1, h2⟩
    · exact .inl ⟨old, k e _ (Ne.symm hSe) he⟩
    · refine .inr ⟨T, f1, old, k e _ (Ne.symm hSe) he, ?_, h1, h2⟩
      by_cases q : T = s.heap.objs.size
      · subst q; exact k2 _ hT
      · exact ⟨oT, k T _ q hT⟩
  have push_ : ∀ b o, s.heap.get? b = some o → (s.heap.push { cls := .type "list", data := .seq #[] }).get? b = some o := fun b o y => Heap.get?_push_of_some _ y
  refine ⟨⟨_, hS, rfl⟩, F.args_list_init_2 _ _, ?_⟩
  show wpAny _ A.in1.in1 (do let old ← Builtin.List.listItems (.ref s.heap.objs.size); Builtin.List.listUpdate (.ref s.heap.objs.size) (fun _ => #[]); letGo old.toList.reverse; Builtin.List.listExtendWith (.ref s.heap.objs.size) (.ref e) .none) _ _ _
  refine wpAny_bind ?_
  unfold Builtin.List.listItems
  refine wpAny_bind (wpAny_seqItems hS rfl (wpAny_pure ?_))
  show wpAny _ _ (updateSeq s.heap.objs.size (fun _ => #[]) >>= fun _ => letGo (#[] : Array Value).toList.reverse >>= fun _ => Builtin.List.listExtendWith (.ref s.heap.objs.size) (.ref e) .none) _ _ _
  refine wpAny_bind (wpAny_updateSeq hS rfl ?_)
  have hS2 := Heap.get?_update_self (Obj.mapSeq (fun _ => (#[] : Array Value))) hS rfl
  have oth2 : ∀ b o, b ≠ s.heap.objs.size → s.heap.get? b = some o → ((s.heap.push { cls := .type "list", data := .seq #[] }).update s.heap.objs.size (Obj.mapSeq (fun _ => (#[] : Array Value)))).get? b = some o :=
    fun b o hb y => (Heap.get?_update_other _ _ (Ne.symm hb)).trans (push_ b o y)
  refine wpAny_bind (wpAny_letGo ?_)
  have en2 : EnS ((s.heap.push { cls := .type "list", data := .seq #[] }).update s.heap.objs.size (Obj.mapSeq (fun _ => (#[] : Array Value)))) e it 0 := enK _ _ hen oth2 fun o y => ⟨_, hS2⟩
  have ty2 := tyE _ en2 s.toks
  have h1 : Builtin.List.listSameRef (.ref s.heap.objs.size) (.ref e) = false := by simp [Builtin.List.listSameRef, hSe]
  have h2 : (Value.type "enumerate" == Value.type "list") = false := by decide
  have h3 : (Value.type "enumerate" == Value.type "tuple") = false := by decide
  unfold Builtin.List.listExtendWith
  refine wpAny_bind (wpAny_typeOf ty2 ?_)
  simp only [h1, h2, h3, Bool.or_false, Bool.false_eq_true, if_false]
  refine wpAny_bind ?_
  have en3 : ∃ old, IsEnum ((s.heap.push { cls := .type "list", data := .seq #[] }).update s.heap.objs.size (Obj.mapSeq (fun _ => (#[] : Array Value)))) e it 0 old := by
    obtain ⟨old, he⟩ := hen0
    exact ⟨old, oth2 e _ (Ne.symm hSe) he⟩
  obtain ⟨old3, he3⟩ := en3
  refine wpAny_pyIter_enum he3 ?_
  refine wpAny_bind (wpAny_holding ?_)
  unfold Builtin.List.listLengthHint
  refine wpAny_bind (wpAny_specialOf ty2 enum_no_len ?_)
  show wpAny _ _ (specialOf (Value.ref e) (Str.ofString "__length_hint__") >>= _) _ _ _
  refine wpAny_bind (wpAny_specialOf ty2 enum_no_hint ?_)
  refine wpAny_pure ?_
  show wpAny _ _ (rule "list.extend.makes-room" >>= fun _ => Builtin.List.listTouch (.ref s.heap.objs.size) >>= fun _ =>
    again (.builtin "list.extend.loop" ⟨[.ref s.heap.objs.size, .ref e, .none], []⟩)) _ _ _
  refine wpAny_bind (wpAny_rule ?_)
  refine wpAny_bind ?_
  show wpAny _ _ (updateSeq s.heap.objs.size (·.push .none) >>= fun _ => updateSeq s.heap.objs.size (·.pop)) _ _ _
  refine wpAny_bind (wpAny_updateSeq hS2 rfl ?_)
  have hS3 := Heap.get?_update_self (Obj.mapSeq (·.push Value.none)) hS2 rfl
  refine wpAny_updateSeq (hz := by seq_fits) hS3 rfl ?_
  have hS4 := Heap.get?_update_self (Obj.mapSeq (·.pop)) hS3 rfl
  have oth4 : ∀ b o, b ≠ s.heap.objs.size → s.heap.get? b = some o → ((((s.heap.push { cls := .type "list", data := .seq #[] }).update s.heap.objs.size (Obj.mapSeq (fun _ => (#[] : Array Value)))).update s.heap.objs.size (Obj.mapSeq (·.push Value.none))).update s.heap.objs.size (Obj.mapSeq (·.pop))).get? b = some o :=
    fun b o hb y => (Heap.get?_update_other _ _ (Ne.symm hb)).trans ((Heap.get?_update_other _ _ (Ne.symm hb)).trans (oth2 b o hb y))
  refine wpAny_pure ⟨plainId_quiet F.plain_extend_loop _, enum_loop (A := A.in1) D s.heap.objs.size .none hn hne hef hSe hSi hSf s.heap.objs.size hif n 0 _ _ _ (by omega) (Nat.zero_le _) (enK _ _ hen oth4 fun o y => ⟨_, hS4⟩)
    (D.frame _ _ _ hst fun b hb o y => oth4 b o (Nat.ne_of_lt (hfp b hb)) y) ?_ hS4 ⟨rfl, fun j v z => by simp at z, fun j k v z => by simp at z⟩ fun h' tk acc' c' hk hS' hacc => ?_⟩
  · show s.heap.objs.size ≤ (((((s.heap.push { cls := .type "list", data := .seq #[] }).update s.heap.objs.size (Obj.mapSeq (fun _ => (#[] : Array Value)))).update s.heap.objs.size (Obj.mapSeq (·.push Value.none))).update s.heap.objs.size (Obj.mapSeq (·.pop)))).objs.size
    rw [Heap.size_update, Heap.size_update, Heap.size_update, Heap.size_push]; omega
  · exact ⟨rfl, hQ h' tk acc' c' (fun b o hbe hbi y => hk b o (Nat.ne_of_lt (Heap.lt_size y)) hbe hbi (oth4 b o (Nat.ne_of_lt (Heap.lt_size y)) y)) hS' hacc⟩
end

/-! the reading: the new list, its new pairs -/
def pairAt (Ts : List Addr) (xs : List V) (b : Addr) : Option HO := (Ts.idxOf? b).bind fun j => (xs[j]?).map fun x => .tup [.int (j : Nat), x]
def layE (H : Hp) (S : Addr) (Ts : List Addr) (xs : List V) : Hp := upd (fun b => (pairAt Ts xs b).or (H b)) S (.lst (Ts.map V.ref))
section
variable {X : Cx} {e : Expr} {te : TE} {lp ep pos pos2 : Pos}
def tLstEnum (K : PySem.W.Frag) (te : TE) : TE := fun σ H Q => te σ H fun x H1 => ∃ a xs, x = .ref a ∧ (SqL K H1 a xs ∨ SqT K H1 a xs) ∧
  ∀ (S : Addr) (Ts : List Addr), Ts.Nodup → S ∉ Ts → Ts.length = xs.length → H1 S = none → (∀ T ∈ Ts, H1 T = none) → Q (.ref S) (layE H1 S Ts xs)
theorem idxOf?_some {l : List Addr} {b : Addr} {j : Nat} (h : l.idxOf? b = some j) : l[j]? = some b := by
  unfold List.idxOf? at h
  rw [List.findIdx?_eq_some_iff_getElem] at h
  obtain ⟨h1, h2, _⟩ := h
  rw [List.getElem?_eq_getElem h1]
  simpa using h2
theorem idxOf?_of {l : List Addr} {b : Addr} {j : Nat} (nd : l.Nodup) (h : l[j]? = some b) : l.idxOf? b = some j := by
  unfold List.idxOf?
  rw [List.findIdx?_eq_some_iff_getElem]
  obtain ⟨h1, h2⟩ := List.getElem?_eq_some_iff.mp h
  refine ⟨h1, by simp [h2], fun k hk => ?_⟩
  have : l[k] ≠ b := fun z => by
    have := (List.getElem_inj nd).mp (z.trans h2.symm)
    omega
  simpa using this
theorem idxOf?_none {l : List Addr} {b : Addr} (h : b ∉ l) : l.idxOf? b = none := by
  unfold List.idxOf?
  rw [List.findIdx?_eq_none_iff]
  intro x hx
  simp; exact fun z => h (z ▸ hx)
theorem layE_old {H : Hp} {S b : Addr} {Ts : List Addr} {xs : List V} (h1 : b ≠ S) (h2 : b ∉ Ts) : layE H S Ts xs b = H b := by
  unfold layE
  rw [upd_ne h1]
  show (pairAt Ts xs b).or (H b) = H b
  unfold pairAt
  rw [idxOf?_none h2]; rfl
theorem layE_new {H : Hp} {S b : Addr} {Ts : List Addr} {xs : List V} {j : Nat} {x : V} (nd : Ts.Nodup) (h1 : b ≠ S) (h2 : Ts[j]? = some b) (h3 : xs[j]? = some x) : layE H S Ts xs b = some (.tup [.int (j : Nat), x]) := by
  unfold layE
  rw [upd_ne h1]
  show (pairAt Ts xs b).or (H b) = _
  unfold pairAt
  rw [idxOf?_of nd h2]
  show ((xs[j]?).map _).or _ = _
  rw [h3]; rfl
/-- behind the call: list and pairs are tracked -/
theorem inv_layE {pins : List (Addr × Obj)} {σ : L2.St} {H : Hp} {s : Shared} {h' : Heap} {tk : Nat} {S : Addr} {Ts : List Addr} {xs : List V} {us : List Value} {c : Nat} (I : Inv X pins σ H s) (hl : xs.length ≤ sizeLine) (r : Vals xs us) (k : ∀ b o, s.heap.get? b = some o → h'.get? b = some o)
    (nd : Ts.Nodup) (hS : s.heap.objs.size ≤ S) (hT : ∀ T ∈ Ts, s.heap.objs.size ≤ T) (hST : S ∉ Ts) (hlen : Ts.length = xs.length) (gS : h'.get? S = some { cls := .type "list", data := .seq (Ts.map Value.ref).toArray c })
    (gT : ∀ (j : Nat) (T : Addr), Ts[j]? = some T → ∃ (t : Tok) (u : Value), us[j]? = some u ∧ h'.get? T = some { cls := .type "tuple", data := .seq #[.int j t, u] }) : Inv X pins σ (layE H S Ts xs) { s with heap := h', toks := tk } := by
  have old : ∀ {b o}, s.heap.get? b = some o → b ≠ S ∧ b ∉ Ts := fun {b o} y => ⟨Nat.ne_of_lt (Nat.lt_of_lt_of_le (Heap.lt_size y) hS), fun m => Nat.lt_irrefl _ (Nat.lt_of_lt_of_le (Heap.lt_size y) (hT b m))⟩
  have oldH : ∀ {b o}, H b = some o → layE H S Ts xs b = some o := fun {b o} y => by
    have nS : b ≠ S := ne_of_none y (I.hok.fresh hS)
    have nT : b ∉ Ts := fun m => by have := I.hok.fresh (hT b m); rw [y] at this; cases this
    rw [layE_old nS nT]; exact y
  refine I.un ⟨fun b o y n _ _ => k b o y, fun b o y n _ _ => ⟨o.slots, k b o y⟩, fun b o y n _ => by rw [layE_old (old y).1 (old y).2]; exact n, fun b o y _ => ⟨o, k b o y⟩, fun b xs y => oldH y, fun b o u y => oldH y, fun b ps y => ⟨#[], by rw [oldH y]; simp⟩⟩ fun b o y => ?_
  by_cases hb : b = S
  · subst hb
    unfold layE at y
    rw [upd_same] at y
    cases y
    refine ⟨by rw [List.length_map, hlen]; exact hl, Ts.map Value.ref, c, ?_, gS⟩
    clear gS gT nd hT hST hlen old oldH
    induction Ts with
    | nil => exact .nil
    | cons t ts ih => exact .cons rfl ih
  · by_cases hm : b ∈ Ts
    · obtain ⟨j, hj⟩ := List.getElem?_of_mem hm
      obtain ⟨t, u, hu, gu⟩ := gT j b hj
      have hjx : j < xs.length := by rw [← hlen]; exact (List.getElem?_eq_some_iff.mp hj).1
      have hx := List.getElem?_eq_getElem hjx
      obtain ⟨u', hu', ru⟩ := r.get hx
      rw [hu] at hu'; cases hu'
      rw [layE_new nd hb hj hx] at y
      cases y
      exact ⟨by show 2 ≤ sizeLine; rw [sizeLine_eq]; decide, [.int j t, u], .cons ⟨t, rfl⟩ (.cons ru .nil), ⟨_, gu, rfl, _, rfl⟩⟩
    · rw [layE_old hb hm] at y
      exact (I.hok b o y).stay (fun c v _ q => k c v q) (fun c q => oldH q) fun c xs q => oldH q

theorem pe_listEnum (hc : X.calm = true) (hg : Gl X "list") (hm : X.mg "list" = none) (hg2 : Gl X "enumerate") (hm2 : X.mg "enumerate" = none) (he : PE X e te)
    (na : starEach [.Call (.Name "enumerate" ep) [e] [] pos2] X.env = (false, eval (.Call (.Name "enumerate" ep) [e] [] pos2) X.env) :: starEach [] X.env := by rfl) (nb : starEach [e] X.env = (false, eval e X.env) :: starEach [] X.env := by rfl) :
    PE X (.Call (.Name "list" lp) [.Call (.Name "enumerate" ep) [e] [] pos2] [] pos) (tLstEnum X.K te) := by
  refine ⟨fun pins s σ H Q I h => ?_⟩
  refine Call_ (ld_blt I hg hm boot_list (PyProof.Rows.callWith_type1 (args_cons ?_ na) na))
  refine Call_ (ld_blt I hg2 hm2 boot_enumerate (PyProof.Rows.callWith_type1 (args_cons (thn (he.run pins s σ H _ I h) fun v s1 ⟨x, H1, I1, r1, a, xs, ex, hq, q⟩ => args_nil ?_) nb) nb))
  subst ex
  cases r1
  have fin : ∀ (us : List Value) (h1 : Heap) (it en : Addr) (St0 : Nat → Heap → Prop), Vals xs us → xs.length ≤ sizeLine → (∀ b o, s1.heap.get? b = some o → h1.get? b = some o) → h1.objs.size = s1.heap.objs.size + 2 → en = s1.heap.objs.size + 1 → it = s1.heap.objs.size → a ≠ it →  a < h1.objs.size → a ≠ en →
      (∃ old, IsEnum h1 en it 0 old) → St0 0 h1 → Draws X.prog X.w X.A.in1.in1.in1 it [it, a] us.toArray.size (fun i v => us.toArray[i]? = some v) St0 →
      wpAny (model X.prog X.w) X.A (call (.type "list") [.ref en]) (EP X pins σ Q) X.xe { s1 with heap := h1 } := by
    intro us h1 it en St0 rv hz k hsz ee ei hai hal hae hen hst D
    subst ee; subst ei
    refine call_list_enum (s := { s1 with heap := h1 }) D (by simp; rw [← rv.length]; exact hz) (Nat.succ_ne_self _) (by simp; exact Ne.symm hae) (by simp) (fun b hb => ?_) hen hst fun h' tk acc' c' hk hS hacc => ?_
    · rcases List.mem_cons.mp hb with z | hb
      · subst z; show _ < h1.objs.size; rw [hsz]; omega
      · have : b = a := by simpa using hb
        subst this; exact hal
    · have pos_ : ∀ v ∈ acc'.toList, ∃ T, v = .ref T ∧ h1.objs.size ≤ T ∧ T ≠ h1.objs.size := fun v hv => by
        obtain ⟨j, hj⟩ := List.getElem?_of_mem hv
        obtain ⟨T, t, x, e1, e2, e3, e4, e5, e6, e7⟩ := hacc.at_ j v (by rw [← hj, Array.getElem?_toList])
        exact ⟨T, e1, e7, e4⟩
      have adr : ∃ Ts : List Addr, acc'.toList = Ts.map Value.ref ∧ ∀ T ∈ Ts, h1.objs.size ≤ T ∧ T ≠ h1.objs.size := by
        clear hS hacc hk
        revert pos_
        generalize acc'.toList = l
        intro pos_
        induction l with
        | nil => exact ⟨[], rfl, fun T h => by cases h⟩
        | cons v l ih =>
          obtain ⟨T, e1, e2, e3⟩ := pos_ v List.mem_cons_self
          obtain ⟨Ts, f1, f2⟩ := ih fun v hv => pos_ v (List.mem_cons_of_mem _ hv)
          refine ⟨T :: Ts, by rw [e1, f1]; rfl, fun T' h => ?_⟩
          rcases List.mem_cons.mp h with z | h
          · subst z; exact ⟨e2, e3⟩
          · exact f2 T' h
      obtain ⟨Ts, eT, hTs⟩ := adr
      have hlenT : Ts.length = xs.length := by
        have h1 := hacc.size
        rw [← Array.length_toList, eT, List.length_map] at h1
        rw [h1, rv.length]; simp
      have atT : ∀ (j : Nat) (T : Addr), Ts[j]? = some T → acc'[j]? = some (.ref T) := fun j T z => by
        rw [← Array.getElem?_toList, eT, List.getElem?_map, z]; rfl
      have nd : Ts.Nodup := by
        refine List.pairwise_iff_getElem.mpr fun i j hi' hj hij z => ?_
        have hj2 := List.getElem?_eq_getElem hj
        have hi2 := List.getElem?_eq_getElem hi'
        have := hacc.nd i j _ (atT i _ hi2) (by rw [z]; exact atT j _ hj2)
        omega
      have kk : ∀ b o, s1.heap.get? b = some o → h'.get? b = some o := fun b o y => hk b o (Nat.ne_of_lt (Nat.lt_succ_of_lt (Heap.lt_size y))) (Nat.ne_of_lt (Heap.lt_size y)) (k b o y)
      have le1 : s1.heap.objs.size ≤ h1.objs.size := by rw [hsz]; exact Nat.le_add_right _ _
      refine ⟨.ref h1.objs.size, layE H1 h1.objs.size Ts xs, (show Inv X pins σ _ { s1 with heap := h', toks := tk } from inv_layE (s := s1) (us := us) (c := c') (tk := tk) (h' := h') I1 hz rv kk nd le1 (fun T hT => Nat.le_trans le1 (hTs T hT).1) (fun m => (hTs _ m).2 rfl) hlenT (by rw [← eT, Array.toArray_toList]; exact hS) (fun j T z => by
        obtain ⟨T', t, x, e1, e2, e3, _⟩ := hacc.at_ j _ (atT j T z)
        cases e1
        exact ⟨t, x, by rw [← e2, ← Array.getElem?_toList], e3⟩)), rfl, q _ _ nd (fun m => (hTs _ m).2 rfl) hlenT (I1.hok.fresh le1) (fun T hT => I1.hok.fresh (Nat.le_trans le1 (hTs T hT).1))⟩
  rcases hq with hq | hq
  · obtain ⟨its, rv, p, hz⟩ := I1.list hq
    have hal : a < s1.heap.objs.size := by obtain ⟨o, y, _⟩ := p.isList; exact Heap.lt_size y
    exact call_enumerate_list p.isList fun h' he hit hsz hk => args_nil (fin its h' _ _ (fun i h => h.IsListIter s1.heap.objs.size a i ∧ h.IsList a its.toArray) rv hz hk hsz rfl rfl (Nat.ne_of_lt hal) (by rw [hsz]; exact Nat.lt_of_lt_of_le hal (Nat.le_add_right _ _)) (Nat.ne_of_lt (Nat.lt_succ_of_lt hal)) ⟨.none, he⟩ ⟨hit, p.isList.at fun o y => hk a o y⟩ (Draws.list (A := X.A.in1.in1.in1) (I1.ok.hd hc) s1.heap.objs.size a (Nat.ne_of_lt hal) its.toArray))
  · obtain ⟨its, rv, p, hz⟩ := I1.tuple hq
    have hal : a < s1.heap.objs.size := p.lt
    have p' : s1.heap.IsTuple a its.toArray := p
    exact call_enumerate_tuple p' fun h' he hit hsz hk => args_nil (fin its h' _ _ (fun i h => h.IsTupleIter s1.heap.objs.size a i ∧ h.IsTuple a its.toArray) rv hz hk hsz rfl rfl (Nat.ne_of_lt hal) (by rw [hsz]; exact Nat.lt_of_lt_of_le hal (Nat.le_add_right _ _)) (Nat.ne_of_lt (Nat.lt_succ_of_lt hal)) ⟨.none, he⟩ ⟨hit, p'.at fun o y => hk a o y⟩ (Draws.tuple (A := X.A.in1.in1.in1) (I1.ok.hd hc) s1.heap.objs.size a (Nat.ne_of_lt hal) its.toArray))
end

/-- list(enumerate(e)), frozen -/
def eListEnum (te : Ev) : Ev := fun env S => (te env S).bind fun w S1 => match seqT w S1 with
  | some xs => .ok (.lst (enumL xs)) S1
  | none => .bad
section
variable {X : Cx} {cm : CM} {xw : WX} {e : Expr} {te : Ev} {lp ep pos pos2 : Pos}
theorem seqT_sq {g : G} {ρ : List Addr} {S : Store} {H : Hp} {v : V} {w : W} {xs : List W} (R : RelS g ρ S H) (r : Rep g.K ρ H v w) (e : seqT w S = some xs) : ∃ a vs, v = .ref a ∧ (SqL g.K H a vs ∨ SqT g.K H a vs) ∧ RepAll g.K ρ H vs xs := by
  cases r with
  | tup h q => cases e; exact ⟨_, _, rfl, .inr h, q⟩
  | lst h q => cases e; exact ⟨_, _, rfl, .inl (.inl h.rd), q⟩
  | xls h q => cases e; exact ⟨_, _, rfl, .inl h.sq, q⟩
  | ref h =>
    rename_i a n
    have e' : seqL (.ref n) S = some xs := e
    obtain ⟨a', vs, h1, h2, h3⟩ := seqL_rep R (.ref h) e'
    cases h1
    exact ⟨_, vs, rfl, .inl (.inl h2), h3⟩
  | _ => cases e
theorem ew_listEnum (hc : X.calm = true) (hg : Gl X "list") (hm : X.mg "list" = none) (hg2 : Gl X "enumerate") (hm2 : X.mg "enumerate" = none) (he : EW X cm xw e te)
    (na : starEach [.Call (.Name "enumerate" ep) [e] [] pos2] X.env = (false, eval (.Call (.Name "enumerate" ep) [e] [] pos2) X.env) :: starEach [] X.env := by rfl) (nb : starEach [e] X.env = (false, eval e X.env) :: starEach [] X.env := by rfl) :
    EW X cm xw (.Call (.Name "list" lp) [.Call (.Name "enumerate" ep) [e] [] pos2] [] pos) (eListEnum te) := by
  refine (pe_fz (pe_listEnum hc hg hm hg2 hm2 he na nb)).wimp fun σ H Q ⟨ρ, env, S, R, P⟩ => ?_
  refine liftE.bind R P fun ρ1 w S1 v H1 st R1 r1 P1 => ?_
  split at P1
  · rename_i xs hx
    obtain ⟨a, vs, rfl, hq, rr⟩ := seqT_sq R1.s r1 hx
    refine ⟨a, vs, rfl, hq, fun Sl Ts nd hS hl hn hnT => ?_⟩
    have hlay : ∀ b o, H1 b = some o → layE H1 Sl Ts vs b = some o := fun b o y => by
      rw [layE_old (ne_of_none y hn) (fun m => by rw [hnT b m] at y; cases y)]; exact y
    have hSl : layE H1 Sl Ts vs Sl = some (.lst (Ts.map V.ref)) := upd_same
    refine ⟨Sl, Ts.map V.ref, rfl, hSl, fun o => ?_⟩
    have keep : ∀ b u, H1 b = some u → upd (layE H1 Sl Ts vs) Sl (.frz o (.lst (Ts.map V.ref))) b = some u := fun b u y => by
      rw [upd_ne (ne_of_none y hn)]; exact hlay b u y
    have st2 : Step ρ1 H1 ρ1 (upd (layE H1 Sl Ts vs) Sl (.frz o (.lst (Ts.map V.ref)))) := ⟨List.prefix_refl _, fun _ h => .inl h, fun b u y _ _ => keep b u y, fun b u y => keep b _ y, fun b u z y => keep b _ y⟩
    have RS : RelS ⟨X.K, cm⟩ ρ1 S1 (upd (layE H1 Sl Ts vs) Sl (.frz o (.lst (Ts.map V.ref)))) := ⟨R1.s.len, R1.s.nd, fun n u y => by
      obtain ⟨b, h1, h2⟩ := R1.s.obj n u y
      obtain ⟨z, hz⟩ := h2.some
      exact ⟨b, h1, h2.mono st2 (by rw [hz]; exact keep b z hz)⟩, tabs_of R1.s.tb fun b u y _ => keep b u y⟩
    refine P1 ρ1 _ _ st2 (R1.step st2 RS) (.lst ⟨o, upd_same⟩ ?_)
    have go : ∀ (k : Nat) (Ts' : List Addr) (xs' : List W), (∀ j T, Ts'[j]? = some T → Ts[k + j]? = some T) → (∀ j w, xs'[j]? = some w → xs[k + j]? = some w) → Ts'.length = xs'.length →
        RepAll X.K ρ1 (upd (layE H1 Sl Ts vs) Sl (.frz o (.lst (Ts.map V.ref)))) (Ts'.map V.ref) ((xs'.zipIdx k).map fun p => .tup [.int (p.2 : Nat), p.1]) := by
      intro k Ts'
      induction Ts' generalizing k with
      | nil => intro xs' _ _ hl'; cases xs' with
        | nil => exact .nil
        | cons _ _ => cases hl'
      | cons T Ts' ih => intro xs' h1 h2 hl'; cases xs' with
        | nil => cases hl'
        | cons w xs' =>
          have hT := h1 0 T rfl
          have hw := h2 0 w rfl
          rw [Nat.add_zero] at hT hw
          obtain ⟨v, hv, rv⟩ := rr.get hw
          have nS : T ≠ Sl := fun z => hS (z ▸ List.mem_of_getElem? hT)
          refine .cons (.tup (vs := [.int (k : Nat), v]) (.inl (.inl ?_)) (.cons (.int _) (.cons (rv.mono st2) .nil))) (ih (k + 1) xs' (fun j T' hj => ?_) (fun j w' hj => ?_) (by simpa using hl'))
          · rw [upd_ne nS]; exact layE_new nd nS hT hv
          · have := h1 (j + 1) T' (by simpa using hj)
            rw [show k + 1 + j = k + (j + 1) by omega]; exact this
          · have := h2 (j + 1) w' (by simpa using hj)
            rw [show k + 1 + j = k + (j + 1) by omega]; exact this
    exact go 0 Ts xs (fun j T h => by rw [Nat.zero_add]; exact h) (fun j w h => by rw [Nat.zero_add]; exact h) (by rw [hl, rr.length])
  · exact P1.elim
end
end HW
namespace HW
open PySem L2
open PyProof.Rows hiding St
/-! ### the end: the law is called with its script -/
section
variable {P : Program} {w : World} {K : PySem.W.Frag} {mg mb : Str → Option Value} {k : Nat} {fa a : Addr} {cs : List (Addr × Addr)} {fd : FuncData} {x : Str} {s₁ : Shared} {vs : List Value} {ns : List Int} {cm : CM} {lawF : Fv}
theorem dw_int_all : ∀ (ns : List Int) {ρ : List Addr} {H : Hp}, RepAll K ρ H (ns.map V.int) (ns.map W.int)
  | [], _, _ => .nil
  | n :: ns, _, _ => .cons (.int n) (dw_int_all ns)
open Classical in
/-- what is tracked at the start: the tables, the script where it is no object of the module -/
noncomputable def startH (K : PySem.W.Frag) (cs : List (Addr × Addr)) (a : Addr) (o : Obj) (xs : List V) : Hp := fun b =>
  if b ∈ cs.map (·.2) then some (.tbl #[]) else if b = a ∧ K.lookup a = none then some (.frz o (.lst xs)) else none
theorem law_callG (KX : K.In s₁.heap) (hns : s₁.heap.Ns mainGlobals mg) (hb : s₁.heap.Ns builtinsNs mb) (hbb : ∀ x : Str, x ≠ "__name__" → mb x = bootBuiltins x) (hlim : s₁.heap.NoLimit) (hg : s₁.gens = #[])
    (hT : ∀ p ∈ cs, s₁.heap.get? p.2 = some { cls := .none, data := .fields #[] }) (nT : ∀ p ∈ cs, K.lookup p.2 = none) (C : ∀ p ∈ cs, PySem.W.CodeHd s₁.heap p.1 p.2)
    (hbm : ∃ (bm : Addr) (ob : Obj), mg "__builtins__" = some (.ref bm) ∧ bm ≠ builtinsNs ∧ s₁.heap.get? bm = some ob ∧ ob.cls = .type "module" ∧ ob.dict = some builtinsNs ∧ ob.data = .plain)
    (ha : s₁.heap.get? a = some { cls := .type "list", data := .seq vs.toArray }) (hi : IntsAre vs ns) (hl : ns.length ≤ sizeLine) (hr : Room k callerA) (hcm : ∀ q ∈ cm.T, ∃ p ∈ cs, p.2 = q.1)
    (F : ∀ base : Heap, K.In base → base.Ns mainGlobals mg → (∀ p ∈ cs, LamX.TabB base mg p.1 p.2) → FnG ⟨P, w, K, mg, base, cm⟩ k fa fd [x] (spFv ⟨K, cm⟩ lawF)) (hbind : ∀ (s : Shared) (u : Value), BindsTo s fd ⟨[u], []⟩ [(x, u)])
    (hlaw : ∃ S', lawF [.xls (ns.map W.int)] [] = .ok (.bl true) S') :
    codeAny (model P w) callerA (.call (.ref fa) ⟨[.ref a], []⟩) (fun r s' => r = .ok (.ret (.bool true)) ∧ OldK s₁.heap s'.heap ∧ s'.os = s₁.os ∧ AllBare s'.gens) s₁ := by
  classical
  have rv := vals_ints hi
  have tabOf : ∀ b : Addr, b ∈ cs.map (·.2) → ∃ p ∈ cs, p.2 = b := fun b hb => List.mem_map.mp hb
  have isT : ∀ b : Addr, b ∈ cs.map (·.2) → s₁.heap.get? b = some { cls := .none, data := .fields #[] } := fun b hb => by
    obtain ⟨p, hp, e⟩ := tabOf b hb
    exact e ▸ hT p hp
  generalize hH : startH K cs a { cls := .type "list", data := .seq vs.toArray } (ns.map V.int) = H
  have aT : a ∉ cs.map (·.2) := fun z => by
    have q := isT a z
    rw [ha] at q
    have z' : Data.seq vs.toArray _ = Data.fields #[] := congrArg Obj.data (Option.some.inj q)
    cases z'
  have atT : ∀ b : Addr, b ∈ cs.map (·.2) → H b = some (.tbl #[]) := fun b hb => by rw [← hH]; exact if_pos hb
  have atA : K.lookup a = none → H a = some (.frz { cls := .type "list", data := .seq vs.toArray } (.lst (ns.map V.int))) := fun q => by
    rw [← hH]; exact (if_neg aT).trans (if_pos ⟨rfl, q⟩)
  have some_ : ∀ b u, H b = some u → (b ∈ cs.map (·.2) ∧ u = .tbl #[]) ∨ (b = a ∧ K.lookup a = none ∧ u = .frz { cls := .type "list", data := .seq vs.toArray } (.lst (ns.map V.int))) := fun b u e => by
    rw [← hH] at e
    unfold startH at e
    split at e
    · exact .inl ⟨by assumption, (Option.some.inj e).symm⟩
    · split at e
      · rename_i h; exact .inr ⟨h.1, h.2, (Option.some.inj e).symm⟩
      · cases e
  -- objects that are neither list nor table are not tracked
  have free_ : ∀ {b : Addr} {o : Obj}, s₁.heap.get? b = some o → (∀ vs n, o.data ≠ .seq vs n) → o.data ≠ .fields #[] → H b = none := fun {b o} e h1 h2 => by
    cases q : H b with
    | none => rfl
    | some u =>
      rcases some_ b u q with ⟨hb, _⟩ | ⟨hb, _, _⟩
      · rw [isT b hb] at e; cases e; exact (h2 rfl).elim
      · subst hb; rw [ha] at e; cases e; exact (h1 _ _ rfl).elim
  have nsK : ∀ {b : Addr} {m : Str → Option Value}, s₁.heap.Ns b m → (hidT s₁.heap H).Ns b m := fun {b m} ⟨o, es, ep, e, d, r⟩ =>
    ⟨o, es, ep, hidT_get e (free_ e (fun vs n z => by rw [d] at z; cases z) fun z => by rw [d] at z; cases z), d, r⟩
  have hKb : K.In (hidT s₁.heap H) := fun b o e => hidT_get (KX b o e) (by
    cases q : H b with
    | none => rfl
    | some u =>
      rcases some_ b u q with ⟨hb, _⟩ | ⟨hb, hn, _⟩
      · obtain ⟨p, hp, ep⟩ := tabOf b hb
        rw [← ep, nT p hp] at e; cases e
      · subst hb; rw [hn] at e; cases e)
  have hM : L2.Mod K mg (hidT s₁.heap H) := ⟨hKb, nsK hns, ⟨mb, nsK hb, hbb⟩, let ⟨mc, h1, h2⟩ := hlim; ⟨mc, nsK h1, h2⟩⟩
  have TB : ∀ p ∈ cs, LamX.TabB (hidT s₁.heap H) mg p.1 p.2 := fun p hp => by
    have hTp := hT p hp
    refine ⟨?_, ?_, fun z => ?_⟩
    · obtain ⟨o, us, file, tf, flags, tg, inF, text, tt, e1, r1, r2, r3, r4, r5, r6, r7, r8, hne⟩ := C p hp
      exact ⟨o, us, file, tf, flags, tg, inF, text, tt, hidT_get e1 (free_ e1 (fun vs n z => by rw [r2] at z; cases z) fun z => by rw [r2] at z; cases z; simp at r3), r1, r2, r3, r4, r5, r6, r7, r8, hne⟩
    · obtain ⟨bm, ob, b1, b2, b3, b4, b5, b6⟩ := hbm
      refine ⟨bm, ob, b1, b2, fun q => ?_, fun q => ?_, hidT_get b3 (free_ b3 (fun vs n z => by rw [b6] at z; cases z) fun z => by rw [b6] at z; cases z), b4, b5, b6⟩
      · obtain ⟨o, es, ep, e, hd, _⟩ := hns
        rw [q, e] at b3; cases b3; rw [hd] at b6; cases b6
      · rw [q, hTp] at b3; cases b3; cases b6
    · obtain ⟨o, es, ep, e, hd, _⟩ := hns
      rw [z, hTp] at e; cases e; cases hd
  have hok : HOk P w H s₁.heap := fun b u e => by
    rcases some_ b u e with ⟨hb, rfl⟩ | ⟨hb, _, rfl⟩
    · exact isT b hb
    · subst hb
      exact ⟨ha, by rw [List.length_map]; exact hl, vs, _, rv, ha⟩
  have e0 : Env0 P w K mg (hidT s₁.heap H) callerA [] s₁ H := ⟨rfl, hM, fun b o e => of_hidT e, Nat.le_of_eq (hidT_size _ _), trivial, fun b hb => absurd (show b ∈ ([] : List Addr) from hb) (by simp), hok, .of_eq hg⟩
  have hF : FzL K H a (ns.map V.int) := by
    cases hk : K.lookup a with
    | none => exact .inl ⟨_, atA hk⟩
    | some o =>
      have e := KX a o hk
      rw [ha] at e; cases e
      exact .inr ⟨_, vs.toArray, _, hk, rfl, rfl, rfl, by rw [List.size_toArray, hi.length]; exact hl, by simpa using rv⟩
  have R0 : RelS ⟨K, cm⟩ [] [] H := ⟨rfl, List.nodup_nil, fun n o e => by simp at e, fun q hq => by
    obtain ⟨p, hp, e⟩ := hcm q hq
    exact LamX.TabS.nil (by rw [← e]; exact atT _ (List.mem_map.mpr ⟨p, hp, rfl⟩))⟩
  obtain ⟨S', hlaw⟩ := hlaw
  refine codeAny_mono ((F _ hKb (nsK hns) TB).run callerA [] s₁ H ⟨[.ref a], []⟩ [.ref a] [.ref a] (fun v H' => v = .bl true) (fun _ _ _ => False) hr rfl e0 (hbind s₁ (.ref a)) (.cons rfl .nil)
    ⟨[], [], [.xls (ns.map W.int)], R0, .cons (.xls hF (dw_int_all ns)) .nil, by rw [hlaw]; exact fun ρ' v H' st R r => by cases r; rfl⟩) fun r s' h => ?_
  match r, h with
  | .error e, h =>
    obtain ⟨_, _, _, _, _, _, _, _, _, _, _, _, z⟩ := h
    exact z.elim
  | .ok .next, h => exact False.elim h
  | .ok .brk, h => exact False.elim h
  | .ok .cont, h => exact False.elim h
  | .ok (.ret u), h =>
    obtain ⟨v, H', os, bare, un, hok', r', q⟩ := h
    subst q
    obtain rfl : u = Value.bool true := r'
    have key : ∀ b o, b ∉ cs.map (·.2) → s₁.heap.get? b = some o → s'.heap.get? b = some o := fun b o nb e => by
      cases q : H b with
      | none => exact un.keep b o e q (fun z => absurd (show b ∈ ([] : List Addr) from z) (by simp)) (by simp)
      | some u =>
        rcases some_ b u q with ⟨hb, _⟩ | ⟨hb, _, e'⟩
        · exact absurd hb nb
        · subst e'
          have z2 := un.frzs b _ _ q
          obtain ⟨e2, _⟩ := hok' b _ z2
          subst hb
          rw [ha] at e; cases e
          exact e2
    have grown : ∀ p ∈ cs, ∃ more : Array Value, s'.heap.get? p.2 = some { cls := .none, data := .fields more } := fun p hp => by
      obtain ⟨more, z⟩ := un.tbls p.2 #[] (atT _ (List.mem_map.mpr ⟨p, hp, rfl⟩))
      exact ⟨_, hok' p.2 _ z⟩
    refine ⟨rfl, ⟨fun b o e => ?_, fun b o e => ?_⟩, os, bare⟩
    · by_cases hb : b ∈ cs.map (·.2)
      · obtain ⟨p, hp, ep⟩ := tabOf b hb
        obtain ⟨more, hm⟩ := grown p hp
        rw [← ep] at e ⊢
        rw [hT p hp] at e
        cases e
        exact .inr (.inl ⟨((C p hp).tab (hT p hp)).isCodeTable, rfl, #[], more, rfl, by rw [Array.empty_append]; exact hm⟩)
      · exact .inl (key b o hb e)
    · by_cases hb : b ∈ cs.map (·.2)
      · obtain ⟨p, hp, ep⟩ := tabOf b hb
        obtain ⟨more, hm⟩ := grown p hp
        rw [← ep]
        exact ⟨_, hm⟩
      · exact ⟨o, key b o hb e⟩
end
/-- what is known of the law: mks, the makers of lambdas -/
def LawG (l : PySem.W.OpenLaw) (w : World) (K : PySem.W.Frag) (k n : Nat) (x : Str) (mks : List Str) (mg : Str → Option Value) (fa : Addr) : Prop :=
  ∃ (fd : FuncData) (cs : List (Addr × Addr)) (cm : CM) (lawF : Fv), (∀ p ∈ cs, ∃ y ∈ mks, PySem.W.tabIn K y = some p) ∧ (∀ p ∈ cs, K.lookup p.2 = none) ∧ (∀ q ∈ cm.T, ∃ p ∈ cs, p.2 = q.1) ∧
    (∀ (s : Shared) (u : Value), BindsTo s fd ⟨[u], []⟩ [(x, u)]) ∧ (∀ ns : List Int, ns.length ≤ n → (∀ z ∈ ns, Builtin.Int.intBits z ≤ 1048576) → ∃ S', lawF [.xls (ns.map W.int)] [] = .ok (.bl true) S') ∧
    ∀ base : Heap, K.In base → base.Ns mainGlobals mg → (∀ p ∈ cs, LamX.TabB base mg p.1 p.2) → FnG ⟨l.prog, w, K, mg, base, cm⟩ k fa fd [x] (spFv ⟨K, cm⟩ lawF)
theorem walkG {l : PySem.W.OpenLaw} {n k : Nat} {q : Program} {loose : List Str} {XP : (Str → Option Value) → Heap → Prop} {YP : World → Heap → Prop} {d : DefRec} {K : Params → PySem.W.Frag} {x : Str} {mks : List Str}
    (hn : l.most = some n) (hn2 : n ≤ sizeLine) (hdf : d.params.defaults = []) (hr : Room k callerA) (hY : ∀ (w : World) (h : Heap), YP w h → (K w.params).In h)
    (hrec : ∀ y ∈ mks, ((recsOf q).any fun e => e.name == y) = true)
    (F : ∀ (w : World) (mg : Str → Option Value) (fa : Addr) (h : Heap), YP w h → (K w.params).In h → h.Ns mainGlobals mg → mg d.name = some (.ref fa) → LawG l w (K w.params) k n x mks mg fa) :
    PySem.W.WalkO q loose XP YP l.row.toRowW d [] (fun f vs => PySem.call f vs) := by
  refine Att.attach_callB hn hdf fun w s₀ s₁ mg mb fa o pm cd doc a vs ns G Y ho hd hcd hmg hobj hints hlen hbits hg => ?_
  have KX := hY w _ Y
  obtain ⟨fd, cs, cm, lawF, hT, nT, hcm, hb, hlaw, hF⟩ := F w mg fa _ Y KX G.T.g hmg
  have tabs : ∀ p ∈ cs, PySem.W.CodeHd s₁.heap p.1 p.2 ∧ s₁.heap.get? p.2 = some { cls := .none, data := .fields #[] } := fun p hp => by
    obtain ⟨y, hy, e⟩ := hT p hp
    have h1 := hrec y hy
    obtain ⟨d1, m1, n1⟩ := List.any_eq_true.mp h1
    have h2 : ((recsOf q).find? fun e => e.name == y).isSome = true := List.find?_isSome.mpr ⟨d1, m1, n1⟩
    obtain ⟨d', h1⟩ := Option.isSome_iff_exists.mp h2
    exact PySem.W.tab_of G.T KX h1 e
  exact law_callG KX G.T.g G.T.b G.T.builtins G.T.nolimit hg (fun p hp => (tabs p hp).2) nT (fun p hp => (tabs p hp).1) G.T.bmain hobj hints (Nat.le_trans hlen hn2) hr hcm hF hb (hlaw ns hlen hbits)
end HW
namespace HW
open PySem L2
open PyProof.Rows hiding St
/-! ### short words for the printed derivations -/
section
variable {T : Top} {N : List Str} {qual : Str} {sc : Scope} {f : Addr} {cdv : Value} {A : Around} {outer : List PySem.Env} {s : Shared} {H : Hp} {E : XK} {k : Nat}
theorem cx_takes : Takes (T.cx N qual sc f cdv A outer s H E) (xwE E) := takes_of rfl rfl rfl rfl
theorem cx_passes : PassesOwn (model T.P T.w) (T.cx N qual sc f cdv A outer s H E).A (T.cx N qual sc f cdv A outer s H E).env (T.cx N qual sc f cdv A outer s H E).xe := passes_of rfl
theorem cx_units {A : Around} (hr : Room k A) : A.units + 65 < cLine := by have := hr.un; omega
end
theorem takesNo {X : Cx} : Takes X xw0 := LamX.takes0
/-- a module's constant -/
structure GlobW (T : Top) (x : Str) (w : W) : Prop where
  ex : ∃ (v : V) (u : Value), T.mg x = some u ∧ RelV v u ∧ ∀ ρ H, Rep T.K ρ H v w
theorem ew_glob {X : Cx} {cm : CM} {xw : WX} {x : Str} {w : W} {pos : Pos} (G : GlobW (topOf X cm) x w) (hg : Gl X x) (hd : (x == ("__debug__" : Str)) = false := by decide) : EW X cm xw (.Name x pos) (eC w) := by
  obtain ⟨v, u, hm, rv, rep⟩ := G.ex
  exact PE.wimp (pe_glob hg hm rv hd) fun σ H Q ⟨ρ, env, S, R, P⟩ => P ρ _ H (Step.refl _ _) R (rep ρ H)
theorem tw_of {X : Cx} {cm : CM} {xw : WX} {e : Expr} {t : Tv} (h : PWW X cm xw e t) : TW X cm xw e t := PW.pt h
theorem tu_of_pw {X : Cx} {cm : CM} {i : Nat} {a : Addr} {cls : Value} {d : Option Addr} {e : Expr} {t : Tx} (h : PWU X cm i a cls d e t) : TU X cm i a cls d e t := PW.pt h
/-! ### name = [..] on one line -/
/-- a list is frozen behind the statement -/
theorem ps_fz {X : Cx} {st : Stmt} {t : TS} (h : PS X st t) : PS X st (fun D σ H => t { D with nx := fun σ' H' => ∃ p xs, H' p = some (.lst xs) ∧ ∀ o, D.nx σ' (upd H' p (.frz o (.lst xs))) } σ H) := ⟨fun pins s σ H D I q => by
  refine thn (h.run pins s σ H _ I q) fun f s1 z => ?_
  cases f with
  | next =>
    obtain ⟨σ', H', J, p, xs, hp, k⟩ := z
    obtain ⟨o, J2⟩ := inv_frz J hp
    exact ⟨σ', _, J2, k o⟩
  | ret v => exact z
  | brk => exact z
  | cont => exact z⟩
def Fz2 (Q : VK) : VK := fun v H => ∃ p xs, H p = some (.lst xs) ∧ ∀ o, Q v (upd H p (.frz o (.lst xs)))
theorem mkl_fz2 {g : G} : MkL g newL Fz2 where
  small := mkl_fz.small (g := g)
  fin := fun xw ρ1 env σ H1 Q ρ2 S2 H2 D acc accw RE st hD RS nd hd r P => by
    obtain ⟨p, xs, e, h1, h2⟩ := mkl_fz.fin xw ρ1 env σ H1 Q ρ2 S2 H2 D acc accw RE st hD RS nd hd r P
    exact ⟨p, xs, h1, h2⟩
section
variable {X : Cx} {cm : CM} {xw : WX} {i : Nat} {y : Str} {py : Pos} {elt tgt iter : Expr} {ifs : List Expr} {scope : Scope} {own : List (Str × Nat)} {pos spos : Pos} {iv : Iv} {tg : Gv} {cond : Tv} {te : Ev}
theorem EPost.ofS {g : G} {ρ : List Addr} {env : Env} {σ : St} {S : Store} {H : Hp} {D : Ends} {r : Res W} {i : Nat} (R : Rel g ρ S env σ H) (P : SPost g xw ρ H D (r.toS env fun w S1 => match HW.gName i w env with
  | some e1 => .nx e1 S1
  | none => .bad)) : EPost g xw ρ env σ H (fun v H1 => D.nx (σ.set i (some v)) H1) r := by
  cases r with
  | ok w S1 => exact fun ρ' v H' st R' r' => P ρ' _ H' st ⟨R'.s, R'.e.set i r'⟩
  | exn c fs S1 => exact fun ρ' d H' st R' x' => P ρ' σ d H' st R' x'
  | bad => exact P
theorem sw_setLc (hc : X.calm = true) (hN : X.N.Nodup) (hi : IW X cm xw tgt iter iv) (ok : blkC X.N X.env.scope scope own = true)
    (hg : ∀ (s : Shared) (H : Hp) (C : Addr) (cl : List (Str × Addr)) (fp : List Addr), GW (X.blk s H scope (compEnvC scope cl C X.env) fp) cm (own.map (·.2)) tgt tg) (ht : ∀ (s : Shared) (H : Hp) (C : Addr) (cl : List (Str × Addr)) (fp : List Addr), CW (X.blk s H scope (compEnvC scope cl C X.env) fp) cm xw0 ifs cond)
    (he : ∀ (s : Shared) (H : Hp) (C : Addr) (cl : List (Str × Addr)) (fp : List Addr), EW (X.blk s H scope (compEnvC scope cl C X.env) fp) cm xw0 elt te) (hy : X.N[i]? = some y := by rfl) (hyl : X.env.scope.names.lookup y = some .local := by rfl)
    (hk : X.env.scope.kind = .function := by rfl) (hl : (py.line == pos.line) = true := by rfl) (ha : (scope.names.any fun (n, k) => n == y && (k == .local || k == .cell)) = false := by decide +kernel) (hs : ∀ x, foldedSetIterable iter X.env x = pure x := by intro _; rfl) :
    SW X cm xw (.Assign [.Name y py] (.ListComp elt [⟨tgt, iter, ifs, 0⟩] scope pos) spos) (sAsg (eComp iv tg cond te (own.map (·.2))) (HW.gName i)) :=
  (ps_fz (ps_setLc hc hN hy hyl (sw_true hk hyl hl ha) hi (blkOk_by ok) hg ht he hs)).wimp fun D σ H ⟨ρ, env, S, R, P⟩ => tLc_of mkl_fz2 R (EPost.ofS R P)
theorem sw_setLcS (hc : X.calm = true) (hN : X.N.Nodup) (hi : IW X cm xw tgt iter iv) (ok : blkC X.N X.env.scope scope own = true)
    (hg : ∀ (s : Shared) (H : Hp) (C : Addr) (cl : List (Str × Addr)) (fp : List Addr), GW (X.blk s H scope (compEnvC scope cl C X.env) fp) cm (own.map (·.2)) tgt tg) (ht : ∀ (s : Shared) (H : Hp) (C : Addr) (cl : List (Str × Addr)) (fp : List Addr), CW (X.blk s H scope (compEnvC scope cl C X.env) fp) cm xw0 ifs cond)
    (he : ∀ (s : Shared) (H : Hp) (C : Addr) (cl : List (Str × Addr)) (fp : List Addr), EW (X.blk s H scope (compEnvC scope cl C X.env) fp) cm xw0 elt te) (hy : X.N[i]? = some y := by rfl) (hyl : X.env.scope.names.lookup y = some .local := by rfl)
    (hk : X.env.scope.kind = .function := by rfl) (hl : (py.line == pos.line) = true := by rfl) (ha : (scope.names.any fun (n, k) => n == y && (k == .local || k == .cell)) = false := by decide +kernel) (hs : ∀ x, foldedSetIterable iter X.env x = pure x := by intro _; rfl) :
    SW X cm xw (.Assign [.Name y py] (.ListComp elt [⟨tgt, iter, ifs, 0⟩] scope pos) spos) (sAsg (eCompS iv tg cond te (own.map (·.2))) (HW.gName i)) :=
  (ps_setLc hc hN hy hyl (sw_true hk hyl hl ha) hi (blkOk_by ok) hg ht he hs).wimp fun D σ H ⟨ρ, env, S, R, P⟩ => tLc_of mkl_st R (EPost.ofS R P)
end
end HW
namespace HW
open PySem L2
open PyProof.Rows hiding St
/-! ### a def whose code object is known: it makes lambdas -/
abbrev BodyGC (T : Top) (N : List Str) (qual : Str) (st : Stmt) (k : Nat) (c : Addr) (sv : Sv) : Prop :=
  ∀ (f : Addr) (A : Around) (outer : List PySem.Env) (s : Shared) (H : Hp) (E : XK), Room k (A.deeper (envOfC qual (defScope st) s.heap.objs.size f (.ref c))) → (A.deeper (envOfC qual (defScope st) s.heap.objs.size f (.ref c))).guards = some [] →
    SWs (T.cx N qual (defScope st) f (.ref c) A outer s H E) T.cm (xwE E) (defBody st) sv
theorem defG_mkC {T : Top} {x qual : Str} {st : Stmt} {f c : Addr} {N ps : List Str} {k : Nat} {sv : Sv} {fv : Fv} {kV doc pm ct oc : Value} {an od : Option Addr} {osl : Array (Option Value)}
    (lk : T.K.lookup f = some ⟨oc, od, .func (PySem.W.fnOf x qual (defArgs st) (defBody st) (defScope st) .none kV doc pm an (.ref c) ct), osl⟩) (hcd : PySem.W.codeIn T.K (.ref c) qual = true) (hkp : PySem.W.keepIn T.K (.ref f) = true)
    (S : FnScope N ps (defScope st)) (hm : T.mg x = some (.ref f)) (b : Binds T.K (PySem.W.fnOf x qual (defArgs st) (defBody st) (defScope st) .none kV doc pm an (.ref c) ct) ps [])
    (hb : BodyGC T N qual st k c sv) (im : Impl (runBody ps.length N.length sv) fv) : DefG T x (k + 1) fv := by
  have hlen : ∀ vs H Q E, spFv T.g fv vs H Q E → vs.length = ps.length := fun vs H Q E h => by
    obtain ⟨ρ, St, ws, R, r, P⟩ := sp_impl im vs H Q E h
    rw [r.length]
    unfold runBody at P
    split at P
    · assumption
    · exact P.elim
  refine ⟨f, _, ps, ⟨hlen, fun A outer s H args us vs Q E hr hgd e0 hbind rv hsp => ?_⟩, hm, hkp, b⟩
  refine LamX.run_ofS (N := N) lk hcd S hr e0 hbind rv (hlen _ _ _ _ hsp) fun hr' => ⟨_, hb f A outer s H E hr' (by rw [deeper_guards]; exact hgd), ?_⟩
  obtain ⟨ρ, St, ws, R, r, P⟩ := sp_impl im vs H Q E hsp
  unfold runBody at P
  by_cases hw : ws.length = ps.length
  rotate_left
  · rw [if_neg hw] at P; exact P.elim
  rw [if_pos hw, ← hw] at P
  refine ⟨ρ, _, St, ⟨R, relE_start r⟩, ?_⟩
  revert P
  cases sv (ws.map some ++ List.replicate (N.length - ws.length) none) St with
  | nx e S1 => intro P ρ2 σ2 H2 st R2; exact P ρ2 .non H2 st R2.s .non
  | rt w S1 => intro P; exact P
  | bk e S1 => intro P; exact P.elim
  | ct e S1 => intro P; exact P.elim
  | exn c fs e S1 => intro P ρ2 σ2 d H2 st R2 x2; exact P ρ2 d H2 st R2.s x2
  | bad => intro P; exact P.elim
theorem lam_takes {X : Cx} {A : Around} {outer : List PySem.Env} {s : Shared} {H : Hp} {E : XK} {scope : Scope} {f c' : Addr} : Takes (LamX.lamCx X A outer s H E scope f c') (xwE E) := takes_of rfl rfl rfl rfl
end HW
namespace HW
open PySem L2
open PyProof.Rows hiding St
/-! ### sum of a tuple -/
section
variable {prog : Program} {w : World} {A : Around} {E : Value → Shared → Prop} {s : Shared} {l : Addr} {its : List Value} {ns : List Int} {Q : Value → Shared → Prop}
theorem sum_tup (hh : A.handled = none) (hl : s.heap.IsTuple l its.toArray) (hi : IntsAre its ns)
    (h : ∀ h' tk t', (∀ b o, s.heap.get? b = some o → h'.get? b = some o) → Q (.int ns.sum t') { s with heap := h', toks := tk }) : wpAny (model prog w) A (call (.builtin "sum") [.ref l]) Q E s := by
  obtain ⟨xs, e⟩ := hi.allInts.items
  have hn : numsOf (intItems xs).toList = ns := by rw [← e]; exact hi.numsOf
  rw [nums_intItems] at hn
  rw [e] at hl
  have hll : l < s.heap.objs.size := by obtain ⟨o, y, _⟩ := hl; exact Heap.lt_size y
  refine call_sum_walkG (wpAny_pyIter_tuple hl ?_)
  refine ⟨_, _, _, _, _, _, numAt xs, rfl, Walks.tuple (A := A.in1) hh s.heap.objs.size l (Nat.ne_of_lt hll) (intItems xs), ⟨⟨_, Heap.get?_push_size _ rfl, rfl, rfl⟩, hl.push _⟩, fun b hb => ?_, (fun _ _ => intItems_at), fun h' tk t' hk => ?_⟩
  · show b < (s.heap.push _).objs.size
    rw [Heap.size_push]
    rcases List.mem_cons.mp hb with z | z
    · subst z; exact Nat.lt_succ_self _
    · have : b = l := by simpa using z
      subst this; exact Nat.lt_succ_of_lt hll
  · have := h h' tk t' fun b o y => hk b o (by simp; exact Nat.ne_of_lt (Heap.lt_size y)) (Heap.get?_push_of_some _ y)
    rw [preSum_eq, List.take_of_length_le (by simp [intItems]), hn]; exact this
end
/-- sum: of a list, of a tuple -/
def sumTW : Bv := fun ws S => match ws with
  | [x] => (match seqT x S with
    | some xs => (match intsOf xs with
      | some ns => .ok (.int ns.sum) S
      | none => .bad)
    | none => .bad)
  | _ => .bad
section
variable {X : Cx} {cm : CM}
theorem cw_sumT (hc : X.calm = true) : CallW X cm (.builtin "sum") sumTW where
  run := fun pins s σ H vs us Q I rv ⟨ρ, S, ws, R, r, P⟩ => by
    unfold sumTW at P
    split at P
    · split at P
      · split at P
        · rename_i x _ xs hx _ ns hn
          obtain ⟨v, rfl, r1⟩ := repAll1 r
          obtain ⟨a, vs', rfl, hq, rr⟩ := seqT_sq R r1 hx
          have := intsOf_rep hn rr
          subst this
          have P1 := P ρ (.int ns.sum) H (Step.refl _ _) R (.int _)
          rcases hq with hq | hq
          · exact cr_sum hc pins s σ H _ us Q I rv ⟨a, ns, rfl, hq, P1⟩
          · obtain ⟨its, rv2, p, hz⟩ := I.tuple hq
            rw [Vals.ref1 rv]
            exact sum_tup (I.ok.hd hc) (show s.heap.IsTuple a its.toArray from p) rv2.ints fun h' tk t' hk => ⟨.int _, H, I.kept hk, ⟨_, rfl⟩, P1⟩
        · exact P.elim
      · exact P.elim
    · exact P.elim
  quiet := fun ws S c fs S' z => by
    unfold sumTW at z
    split at z
    · split at z
      · split at z <;> cases z
      · cases z
    · cases z
end
end HW
namespace HW
open PySem L2
open PyProof.Rows hiding St
/-! ### texts compared, whatever their signs -/
def eqSW (x y : W) (S : Store) : Res W := match x, y with
  | .str a, .str b => .ok (.bl (decide (a = b))) S
  | _, _ => .bad
def neSW (x y : W) (S : Store) : Res W := match x, y with
  | .str a, .str b => .ok (.bl (!decide (a = b))) S
  | _, _ => .bad
section
variable {X : Cx} {cm : CM}
theorem dec_strV (a b : Str) : decide (V.str a = V.str b) = decide (a = b) := by
  rw [Bool.eq_iff_iff]; simp
theorem ow_eqS : OpW X cm (compareOp .Eq) eqSW where
  run := fun pins s σ H x y v u Q I rx ry ⟨ρ, S, w1, w2, R, r1, r2, P⟩ => by
    unfold eqSW at P
    split at P
    · cases r1; cases r2
      exact op_eq pins s σ H _ _ v u Q I rx ry ⟨rfl, by rw [dec_strV]; exact P ρ _ H (Step.refl _ _) R (.bl _)⟩
    · exact P.elim
  quiet := fun x y S c fs S' z => by unfold eqSW at z; split at z <;> cases z
theorem ow_neS : OpW X cm (compareOp .NotEq) neSW where
  run := fun pins s σ H x y v u Q I rx ry ⟨ρ, S, w1, w2, R, r1, r2, P⟩ => by
    unfold neSW at P
    split at P
    · cases r1; cases r2
      exact op_ne pins s σ H _ _ v u Q I rx ry ⟨rfl, by rw [dec_strV]; exact P ρ _ H (Step.refl _ _) R (.bl _)⟩
    · exact P.elim
  quiet := fun x y S c fs S' z => by unfold neSW at z; split at z <;> cases z
end
end HW
namespace HW
open PySem L2
open PyProof.Rows hiding St
namespace K59
/-- the j-th statement of the text -/
def top (j : Nat) : Stmt := PySem.Challenge.pw_hatchwaits_k59_means_until_empty_and_sta.main.body.getD j (.Pass ⟨0, 0, 0, 0⟩)
/-- the built-in names are the built-in ones -/
structure Mg (T : Top) : Prop where
  m_abs : T.mg "abs" = none
  m_sum : T.mg "sum" = none
  m_list : T.mg "list" = none
  m_enumerate : T.mg "enumerate" = none
  m_len : T.mg "len" = none
  m_range : T.mg "range" = none
  m_tuple : T.mg "tuple" = none
  m_int : T.mg "int" = none
  m_repr : T.mg "repr" = none
/-! common_divisor -/
abbrev common_divisor_st : Stmt := top 11
theorem common_divisor_sc : FnScope ["one", "other", "left"] ["one", "other"] (defScope common_divisor_st) := ⟨rfl, rfl, rfl, by decide +kernel, rfl, by decide +kernel, by decide +kernel⟩
noncomputable def common_divisor_sv : Sv := (sSeq (sWhile (tVal (eOp gtW (eVar 1) (eC (.int 0)))) (sSeq (sAsg (eOp modW (eVar 0) (eVar 1)) (gName 2)) (sSeq (sAsg (eVar 1) (gName 0)) (sAsg (eVar 2) (gName 1))))) (sRet (eVar 0)))
theorem common_divisor_bd {T : Top} {k : Nat} (M : Mg T) : Body T ["one", "other", "left"] "common_divisor" common_divisor_st k (common_divisor_sv) := by
  refine fun f cdv A outer s H E hr => ?_
  have hu := cx_units hr
  have tk := cx_takes (T := T) (N := ["one", "other", "left"]) (qual := "common_divisor") (sc := defScope common_divisor_st) (f := f) (cdv := cdv) (A := A) (outer := outer) (s := s) (H := H) (E := E)
  exact (sws_cons (sw_while cx_passes (tw_cmp ow_gt (ew_var (i := 1)) ew_int) (sws_cons (sw_set (i := 2) common_divisor_sc.nd (ew_op ow_mod (ew_var (i := 0)) (ew_var (i := 1)))) (sws_cons (sw_set (i := 0) common_divisor_sc.nd (ew_var (i := 1))) (sws_one (sw_set (i := 1) common_divisor_sc.nd (ew_var (i := 2))))))) (sws_one (sw_ret (ew_var (i := 0)))))
/-! fraction -/
abbrev fraction_st : Stmt := top 12
theorem fraction_sc : FnScope ["top", "bottom", "shared"] ["top", "bottom"] (defScope fraction_st) := ⟨rfl, rfl, rfl, by decide +kernel, rfl, by decide +kernel, by decide +kernel⟩
noncomputable def fraction_sv (fv_common_divisor : Fv) : Sv := (sSeq (sIf (tVal (eOp ltW (eVar 1) (eC (.int 0)))) (sSeq (sAsg (eOp subW (eC (.int 0)) (eVar 0)) (gName 0)) (sAsg (eOp subW (eC (.int 0)) (eVar 1)) (gName 1))) sSkip) (sSeq (sAsg (eFn fv_common_divisor (aCons (eCall absW (aCons (eVar 0) aNil)) (aCons (eVar 1) aNil))) (gName 2)) (sRet (eTup (aCons (eOp fdivW (eVar 0) (eVar 2)) (aCons (eOp fdivW (eVar 1) (eVar 2)) aNil))))))
theorem fraction_bd {T : Top} {fv_common_divisor : Fv} {k : Nat} (M : Mg T) (D_common_divisor : Def T "common_divisor" k fv_common_divisor) : Body T ["top", "bottom", "shared"] "fraction" fraction_st k (fraction_sv fv_common_divisor) := by
  refine fun f cdv A outer s H E hr => ?_
  have hu := cx_units hr
  have tk := cx_takes (T := T) (N := ["top", "bottom", "shared"]) (qual := "fraction") (sc := defScope fraction_st) (f := f) (cdv := cdv) (A := A) (outer := outer) (s := s) (H := H) (E := E)
  exact (sws_cons (sw_if (tw_cmp ow_lt (ew_var (i := 1)) ew_int) (sws_cons (sw_set (i := 0) fraction_sc.nd (ew_op ow_sub ew_int (ew_var (i := 0)))) (sws_one (sw_set (i := 1) fraction_sc.nd (ew_op ow_sub ew_int (ew_var (i := 1)))))) sws_nil) (sws_cons (sw_set (i := 2) fraction_sc.nd (ew_fn D_common_divisor tk hr rfl (aw_cons (ew_callB cw_abs rfl M.m_abs PyProof.Rows.boot_abs (aw_cons (ew_var (i := 0)) aw_nil)) (aw_cons (ew_var (i := 1)) aw_nil)))) (sws_one (sw_ret (ew_tup (aw_cons (ew_op ow_fdiv (ew_var (i := 0)) (ew_var (i := 2))) (aw_cons (ew_op ow_fdiv (ew_var (i := 1)) (ew_var (i := 2))) aw_nil)))))))
/-! minus -/
abbrev minus_st : Stmt := top 13
theorem minus_sc : FnScope ["one", "other"] ["one", "other"] (defScope minus_st) := ⟨rfl, rfl, rfl, by decide +kernel, rfl, by decide +kernel, by decide +kernel⟩
noncomputable def minus_sv (fv_fraction : Fv) : Sv := (sRet (eFn fv_fraction (aCons (eOp subW (eOp mulW (eOp ixW (eVar 0) (eC (.int 0))) (eOp ixW (eVar 1) (eC (.int 1)))) (eOp mulW (eOp ixW (eVar 1) (eC (.int 0))) (eOp ixW (eVar 0) (eC (.int 1))))) (aCons (eOp mulW (eOp ixW (eVar 0) (eC (.int 1))) (eOp ixW (eVar 1) (eC (.int 1)))) aNil))))
theorem minus_bd {T : Top} {fv_fraction : Fv} {k : Nat} (M : Mg T) (D_fraction : Def T "fraction" k fv_fraction) : Body T ["one", "other"] "minus" minus_st k (minus_sv fv_fraction) := by
  refine fun f cdv A outer s H E hr => ?_
  have hu := cx_units hr
  have tk := cx_takes (T := T) (N := ["one", "other"]) (qual := "minus") (sc := defScope minus_st) (f := f) (cdv := cdv) (A := A) (outer := outer) (s := s) (H := H) (E := E)
  exact (sws_one (sw_ret (ew_fn D_fraction tk hr rfl (aw_cons (ew_op ow_sub (ew_op ow_mul (ew_ix iw_seq (ew_var (i := 0)) ew_int) (ew_ix iw_seq (ew_var (i := 1)) ew_int)) (ew_op ow_mul (ew_ix iw_seq (ew_var (i := 1)) ew_int) (ew_ix iw_seq (ew_var (i := 0)) ew_int))) (aw_cons (ew_op ow_mul (ew_ix iw_seq (ew_var (i := 0)) ew_int) (ew_ix iw_seq (ew_var (i := 1)) ew_int)) aw_nil)))))
/-! times -/
abbrev times_st : Stmt := top 14
theorem times_sc : FnScope ["one", "other"] ["one", "other"] (defScope times_st) := ⟨rfl, rfl, rfl, by decide +kernel, rfl, by decide +kernel, by decide +kernel⟩
noncomputable def times_sv (fv_fraction : Fv) : Sv := (sRet (eFn fv_fraction (aCons (eOp mulW (eOp ixW (eVar 0) (eC (.int 0))) (eOp ixW (eVar 1) (eC (.int 0)))) (aCons (eOp mulW (eOp ixW (eVar 0) (eC (.int 1))) (eOp ixW (eVar 1) (eC (.int 1)))) aNil))))
theorem times_bd {T : Top} {fv_fraction : Fv} {k : Nat} (M : Mg T) (D_fraction : Def T "fraction" k fv_fraction) : Body T ["one", "other"] "times" times_st k (times_sv fv_fraction) := by
  refine fun f cdv A outer s H E hr => ?_
  have hu := cx_units hr
  have tk := cx_takes (T := T) (N := ["one", "other"]) (qual := "times") (sc := defScope times_st) (f := f) (cdv := cdv) (A := A) (outer := outer) (s := s) (H := H) (E := E)
  exact (sws_one (sw_ret (ew_fn D_fraction tk hr rfl (aw_cons (ew_op ow_mul (ew_ix iw_seq (ew_var (i := 0)) ew_int) (ew_ix iw_seq (ew_var (i := 1)) ew_int)) (aw_cons (ew_op ow_mul (ew_ix iw_seq (ew_var (i := 0)) ew_int) (ew_ix iw_seq (ew_var (i := 1)) ew_int)) aw_nil)))))
/-! over -/
abbrev over_st : Stmt := top 15
theorem over_sc : FnScope ["one", "other"] ["one", "other"] (defScope over_st) := ⟨rfl, rfl, rfl, by decide +kernel, rfl, by decide +kernel, by decide +kernel⟩
noncomputable def over_sv (fv_fraction : Fv) : Sv := (sRet (eFn fv_fraction (aCons (eOp mulW (eOp ixW (eVar 0) (eC (.int 0))) (eOp ixW (eVar 1) (eC (.int 1)))) (aCons (eOp mulW (eOp ixW (eVar 0) (eC (.int 1))) (eOp ixW (eVar 1) (eC (.int 0)))) aNil))))
theorem over_bd {T : Top} {fv_fraction : Fv} {k : Nat} (M : Mg T) (D_fraction : Def T "fraction" k fv_fraction) : Body T ["one", "other"] "over" over_st k (over_sv fv_fraction) := by
  refine fun f cdv A outer s H E hr => ?_
  have hu := cx_units hr
  have tk := cx_takes (T := T) (N := ["one", "other"]) (qual := "over") (sc := defScope over_st) (f := f) (cdv := cdv) (A := A) (outer := outer) (s := s) (H := H) (E := E)
  exact (sws_one (sw_ret (ew_fn D_fraction tk hr rfl (aw_cons (ew_op ow_mul (ew_ix iw_seq (ew_var (i := 0)) ew_int) (ew_ix iw_seq (ew_var (i := 1)) ew_int)) (aw_cons (ew_op ow_mul (ew_ix iw_seq (ew_var (i := 0)) ew_int) (ew_ix iw_seq (ew_var (i := 1)) ew_int)) aw_nil)))))
/-! less -/
abbrev less_st : Stmt := top 16
theorem less_sc : FnScope ["one", "other"] ["one", "other"] (defScope less_st) := ⟨rfl, rfl, rfl, by decide +kernel, rfl, by decide +kernel, by decide +kernel⟩
noncomputable def less_sv : Sv := (sRet (eOp ltW (eOp mulW (eOp ixW (eVar 0) (eC (.int 0))) (eOp ixW (eVar 1) (eC (.int 1)))) (eOp mulW (eOp ixW (eVar 1) (eC (.int 0))) (eOp ixW (eVar 0) (eC (.int 1))))))
theorem less_bd {T : Top} {k : Nat} (M : Mg T) : Body T ["one", "other"] "less" less_st k (less_sv) := by
  refine fun f cdv A outer s H E hr => ?_
  have hu := cx_units hr
  have tk := cx_takes (T := T) (N := ["one", "other"]) (qual := "less") (sc := defScope less_st) (f := f) (cdv := cdv) (A := A) (outer := outer) (s := s) (H := H) (E := E)
  exact (sws_one (sw_ret (ew_cmp ow_lt (ew_op ow_mul (ew_ix iw_seq (ew_var (i := 0)) ew_int) (ew_ix iw_seq (ew_var (i := 1)) ew_int)) (ew_op ow_mul (ew_ix iw_seq (ew_var (i := 1)) ew_int) (ew_ix iw_seq (ew_var (i := 0)) ew_int)))))
/-! mean_of -/
abbrev mean_of_st : Stmt := top 17
theorem mean_of_sc : FnScope ["pairs", "number", "lot"] ["pairs"] (defScope mean_of_st) := ⟨rfl, rfl, rfl, by decide +kernel, rfl, by decide +kernel, by decide +kernel⟩
noncomputable def mean_of_sv (fv_fraction : Fv) : Sv := (sRet (eFn fv_fraction (aCons (eCall sumW (aCons (eComp (iSeq (eVar 0)) (gTup [(gName 1), (gName 2)]) tYes (eOp mulW (eVar 1) (eVar 2)) [1, 2]) aNil)) (aCons (eCall sumW (aCons (eComp (iSeq (eVar 0)) (gTup [(gName 1), (gName 2)]) tYes (eVar 2) [1, 2]) aNil)) aNil))))
theorem mean_of_bd {T : Top} {fv_fraction : Fv} {k : Nat} (M : Mg T) (D_fraction : Def T "fraction" k fv_fraction) : Body T ["pairs", "number", "lot"] "mean_of" mean_of_st k (mean_of_sv fv_fraction) := by
  refine fun f cdv A outer s H E hr => ?_
  have hu := cx_units hr
  have tk := cx_takes (T := T) (N := ["pairs", "number", "lot"]) (qual := "mean_of") (sc := defScope mean_of_st) (f := f) (cdv := cdv) (A := A) (outer := outer) (s := s) (H := H) (E := E)
  exact (sws_one (sw_ret (ew_fn D_fraction tk hr rfl (aw_cons (ew_callB (cw_sum rfl) rfl M.m_sum PyProof.Rows.boot_sum (aw_cons (ew_comp rfl mean_of_sc.nd (own := [("number", 1), ("lot", 2)]) (iw_seqI (ew_var (i := 0))) (show blkC ["pairs", "number", "lot"] (defScope mean_of_st) _ [("number", 1), ("lot", 2)] = true by decide +kernel) (fun _ _ _ _ _ => (gw_tup rfl (gws_cons (gw_name mean_of_sc.nd (i := 1)) (gws_cons (gw_name mean_of_sc.nd (i := 2)) gws_nil)))) (fun _ _ _ _ _ => cwt_nil) (fun _ _ _ _ _ => (ew_op ow_mul (ew_var (i := 1)) (ew_var (i := 2))))) aw_nil)) (aw_cons (ew_callB (cw_sum rfl) rfl M.m_sum PyProof.Rows.boot_sum (aw_cons (ew_comp rfl mean_of_sc.nd (own := [("number", 1), ("lot", 2)]) (iw_seqI (ew_var (i := 0))) (show blkC ["pairs", "number", "lot"] (defScope mean_of_st) _ [("number", 1), ("lot", 2)] = true by decide +kernel) (fun _ _ _ _ _ => (gw_tup rfl (gws_cons (gw_name mean_of_sc.nd (i := 1)) (gws_cons (gw_name mean_of_sc.nd (i := 2)) gws_nil)))) (fun _ _ _ _ _ => cwt_nil) (fun _ _ _ _ _ => (ew_var (i := 2)))) aw_nil)) aw_nil)))))
/-! mean -/
abbrev mean_st : Stmt := top 19
theorem mean_sc : FnScope ["flow"] ["flow"] (defScope mean_st) := ⟨rfl, rfl, rfl, by decide +kernel, rfl, by decide +kernel, by decide +kernel⟩
noncomputable def mean_sv (fv_mean_of : Fv) : Sv := (sRet (eFn fv_mean_of (aCons (eListEnum (eVar 0)) aNil)))
theorem mean_bd {T : Top} {fv_mean_of : Fv} {k : Nat} (M : Mg T) (D_mean_of : Def T "mean_of" k fv_mean_of) : Body T ["flow"] "mean" mean_st k (mean_sv fv_mean_of) := by
  refine fun f cdv A outer s H E hr => ?_
  have hu := cx_units hr
  have tk := cx_takes (T := T) (N := ["flow"]) (qual := "mean") (sc := defScope mean_st) (f := f) (cdv := cdv) (A := A) (outer := outer) (s := s) (H := H) (E := E)
  exact (sws_one (sw_ret (ew_fn D_mean_of tk hr rfl (aw_cons (ew_listEnum rfl rfl M.m_list rfl M.m_enumerate (ew_var (i := 0))) aw_nil))))
/-! second -/
abbrev second_st : Stmt := top 20
theorem second_sc : FnScope ["flow", "k", "lot"] ["flow"] (defScope second_st) := ⟨rfl, rfl, rfl, by decide +kernel, rfl, by decide +kernel, by decide +kernel⟩
noncomputable def second_sv (fv_mean_of : Fv) : Sv := (sRet (eFn fv_mean_of (aCons (eComp (iEnum' (aCons (eVar 0) aNil)) (gTup [(gName 1), (gName 2)]) tYes (eTup (aCons (eOp mulW (eVar 1) (eVar 1)) (aCons (eVar 2) aNil))) [1, 2]) aNil)))
theorem second_bd {T : Top} {fv_mean_of : Fv} {k : Nat} (M : Mg T) (D_mean_of : Def T "mean_of" k fv_mean_of) : Body T ["flow", "k", "lot"] "second" second_st k (second_sv fv_mean_of) := by
  refine fun f cdv A outer s H E hr => ?_
  have hu := cx_units hr
  have tk := cx_takes (T := T) (N := ["flow", "k", "lot"]) (qual := "second") (sc := defScope second_st) (f := f) (cdv := cdv) (A := A) (outer := outer) (s := s) (H := H) (E := E)
  exact (sws_one (sw_ret (ew_fn D_mean_of tk hr rfl (aw_cons (ew_comp rfl second_sc.nd (own := [("k", 1), ("lot", 2)]) (iw_enum rfl M.m_enumerate (aw_cons (ew_var (i := 0)) aw_nil)) (show blkC ["flow", "k", "lot"] (defScope second_st) _ [("k", 1), ("lot", 2)] = true by decide +kernel) (fun _ _ _ _ _ => (gw_tup rfl (gws_cons (gw_name second_sc.nd (i := 1)) (gws_cons (gw_name second_sc.nd (i := 2)) gws_nil)))) (fun _ _ _ _ _ => cwt_nil) (fun _ _ _ _ _ => (ew_tup (aw_cons (ew_op ow_mul (ew_var (i := 1)) (ew_var (i := 1))) (aw_cons (ew_var (i := 2)) aw_nil))))) aw_nil))))
/-! word_of -/
abbrev word_of_st : Stmt := top 23
theorem word_of_sc : FnScope ["flow", "hands", "middle"] ["flow", "hands"] (defScope word_of_st) := ⟨rfl, rfl, rfl, by decide +kernel, rfl, by decide +kernel, by decide +kernel⟩
noncomputable def word_of_sv (fv_mean fv_less : Fv) : Sv := (sSeq (sAsg (eFn fv_mean (aCons (eVar 0) aNil)) (gName 2)) (sSeq (sIf (tVal (eFn fv_less (aCons (eVar 2) (aCons (eTup (aCons (eVar 1) (aCons (eC (.int 1)) aNil))) aNil)))) (sRet (eC (.str "rests"))) sSkip) (sSeq (sIf (tVal (eFn fv_less (aCons (eTup (aCons (eVar 1) (aCons (eC (.int 1)) aNil))) (aCons (eVar 2) aNil)))) (sRet (eC (.str "runs"))) sSkip) (sSeq (sIf (tVal (eOp eqW (eCall lenW (aCons (eVar 0) aNil)) (eOp addW (eVar 1) (eC (.int 1))))) (sRet (eC (.str "still"))) sSkip) (sRet (eC (.str "swings")))))))
theorem word_of_bd {T : Top} {fv_mean fv_less : Fv} {k : Nat} (M : Mg T) (D_mean : Def T "mean" k fv_mean) (D_less : Def T "less" k fv_less) : Body T ["flow", "hands", "middle"] "word_of" word_of_st k (word_of_sv fv_mean fv_less) := by
  refine fun f cdv A outer s H E hr => ?_
  have hu := cx_units hr
  have tk := cx_takes (T := T) (N := ["flow", "hands", "middle"]) (qual := "word_of") (sc := defScope word_of_st) (f := f) (cdv := cdv) (A := A) (outer := outer) (s := s) (H := H) (E := E)
  exact (sws_cons (sw_set (i := 2) word_of_sc.nd (ew_fn D_mean tk hr rfl (aw_cons (ew_var (i := 0)) aw_nil))) (sws_cons (sw_if (tw_val (ew_fn D_less tk hr rfl (aw_cons (ew_var (i := 2)) (aw_cons (ew_tup (aw_cons (ew_var (i := 1)) (aw_cons ew_int aw_nil))) aw_nil)))) (sws_one (sw_ret ew_str)) sws_nil) (sws_cons (sw_if (tw_val (ew_fn D_less tk hr rfl (aw_cons (ew_tup (aw_cons (ew_var (i := 1)) (aw_cons ew_int aw_nil))) (aw_cons (ew_var (i := 2)) aw_nil)))) (sws_one (sw_ret ew_str)) sws_nil) (sws_cons (sw_if (tw_cmp (ow_eq hu) (ew_callB cw_len rfl M.m_len PySem.boot_len (aw_cons (ew_var (i := 0)) aw_nil)) (ew_op ow_add (ew_var (i := 1)) ew_int)) (sws_one (sw_ret ew_str)) sws_nil) (sws_one (sw_ret ew_str))))))
/-! ask_rest -/
abbrev ask_rest_st : Stmt := top 24
theorem ask_rest_sc : FnScope ["flow", "hands", "word"] ["flow", "hands"] (defScope ask_rest_st) := ⟨rfl, rfl, rfl, by decide +kernel, rfl, by decide +kernel, by decide +kernel⟩
noncomputable def ask_rest_sv (fv_word_of : Fv) : Sv := (sSeq (sAsg (eFn fv_word_of (aCons (eVar 0) (aCons (eVar 1) aNil))) (gName 2)) (sIf (tVal (eOp neW (eVar 2) (eC (.str "rests")))) (sRaise "NoRest" ["word"] (aCons (eVar 2) aNil)) sSkip))
theorem ask_rest_bd {T : Top} {fv_word_of : Fv} {k : Nat} (M : Mg T) (D_word_of : Def T "word_of" k fv_word_of) (X_NoRest : ExcT T "NoRest" ["word"]) (hk : 2 ≤ k) : Body T ["flow", "hands", "word"] "ask_rest" ask_rest_st k (ask_rest_sv fv_word_of) := by
  refine fun f cdv A outer s H E hr => ?_
  have hu := cx_units hr
  have tk := cx_takes (T := T) (N := ["flow", "hands", "word"]) (qual := "ask_rest") (sc := defScope ask_rest_st) (f := f) (cdv := cdv) (A := A) (outer := outer) (s := s) (H := H) (E := E)
  exact (sws_cons (sw_set (i := 2) ask_rest_sc.nd (ew_fn D_word_of tk hr rfl (aw_cons (ew_var (i := 0)) (aw_cons (ew_var (i := 1)) aw_nil)))) (sws_one (sw_if (tw_cmp (ow_ne hu) (ew_var (i := 2)) ew_str) (sws_one (sw_raise X_NoRest rfl tk (hr.mono hk) rfl (aw_cons (ew_var (i := 2)) aw_nil))) sws_nil)))
/-! lacking -/
abbrev lacking_st : Stmt := top 25
theorem lacking_sc : FnScope ["flow"] ["flow"] (defScope lacking_st) := ⟨rfl, rfl, rfl, by decide +kernel, rfl, by decide +kernel, by decide +kernel⟩
noncomputable def lacking_sv (fv_minus fv_mean : Fv) : Sv := (sRet (eFn fv_minus (aCons (eC (.tup [.int 1, .int 1])) (aCons (eFn fv_mean (aCons (eVar 0) aNil)) aNil))))
theorem lacking_bd {T : Top} {fv_minus fv_mean : Fv} {k : Nat} (M : Mg T) (D_minus : Def T "minus" k fv_minus) (D_mean : Def T "mean" k fv_mean) (g_ONE : GlobW T "ONE" (.tup [.int 1, .int 1])) : Body T ["flow"] "lacking" lacking_st k (lacking_sv fv_minus fv_mean) := by
  refine fun f cdv A outer s H E hr => ?_
  have hu := cx_units hr
  have tk := cx_takes (T := T) (N := ["flow"]) (qual := "lacking") (sc := defScope lacking_st) (f := f) (cdv := cdv) (A := A) (outer := outer) (s := s) (H := H) (E := E)
  exact (sws_one (sw_ret (ew_fn D_minus tk hr rfl (aw_cons (ew_glob g_ONE rfl) (aw_cons (ew_fn D_mean tk hr rfl (aw_cons (ew_var (i := 0)) aw_nil)) aw_nil)))))
/-! empty_mean -/
abbrev empty_mean_st : Stmt := top 26
theorem empty_mean_sc : FnScope ["flow", "w"] ["flow", "w"] (defScope empty_mean_st) := ⟨rfl, rfl, rfl, by decide +kernel, rfl, by decide +kernel, by decide +kernel⟩
noncomputable def empty_mean_sv (fv_ask_rest fv_over fv_lacking : Fv) : Sv := (sSeq (sExpr (eFn fv_ask_rest (aCons (eVar 0) (aCons (eC (.int 1)) aNil)))) (sRet (eFn fv_over (aCons (eTup (aCons (eVar 1) (aCons (eC (.int 1)) aNil))) (aCons (eFn fv_lacking (aCons (eVar 0) aNil)) aNil)))))
theorem empty_mean_bd {T : Top} {fv_ask_rest fv_over fv_lacking : Fv} {k : Nat} (M : Mg T) (D_ask_rest : Def T "ask_rest" k fv_ask_rest) (D_over : Def T "over" k fv_over) (D_lacking : Def T "lacking" k fv_lacking) : Body T ["flow", "w"] "empty_mean" empty_mean_st k (empty_mean_sv fv_ask_rest fv_over fv_lacking) := by
  refine fun f cdv A outer s H E hr => ?_
  have hu := cx_units hr
  have tk := cx_takes (T := T) (N := ["flow", "w"]) (qual := "empty_mean") (sc := defScope empty_mean_st) (f := f) (cdv := cdv) (A := A) (outer := outer) (s := s) (H := H) (E := E)
  exact (sws_cons (sw_expr (ew_fn D_ask_rest tk hr rfl (aw_cons (ew_var (i := 0)) (aw_cons ew_int aw_nil)))) (sws_one (sw_ret (ew_fn D_over tk hr rfl (aw_cons (ew_tup (aw_cons (ew_var (i := 1)) (aw_cons ew_int aw_nil))) (aw_cons (ew_fn D_lacking tk hr rfl (aw_cons (ew_var (i := 0)) aw_nil)) aw_nil))))))
/-! mean_standing -/
abbrev mean_standing_st : Stmt := top 27
theorem mean_standing_sc : FnScope ["flow"] ["flow"] (defScope mean_standing_st) := ⟨rfl, rfl, rfl, by decide +kernel, rfl, by decide +kernel, by decide +kernel⟩
noncomputable def mean_standing_sv (fv_ask_rest fv_over fv_times fv_lacking fv_minus fv_mean fv_second : Fv) : Sv := (sSeq (sExpr (eFn fv_ask_rest (aCons (eVar 0) (aCons (eC (.int 1)) aNil)))) (sRet (eFn fv_over (aCons (eFn fv_minus (aCons (eFn fv_second (aCons (eVar 0) aNil)) (aCons (eFn fv_mean (aCons (eVar 0) aNil)) aNil))) (aCons (eFn fv_times (aCons (eTup (aCons (eC (.int 2)) (aCons (eC (.int 1)) aNil))) (aCons (eFn fv_lacking (aCons (eVar 0) aNil)) aNil))) aNil)))))
theorem mean_standing_bd {T : Top} {fv_ask_rest fv_over fv_times fv_lacking fv_minus fv_mean fv_second : Fv} {k : Nat} (M : Mg T) (D_ask_rest : Def T "ask_rest" k fv_ask_rest) (D_over : Def T "over" k fv_over) (D_times : Def T "times" k fv_times) (D_lacking : Def T "lacking" k fv_lacking) (D_minus : Def T "minus" k fv_minus) (D_mean : Def T "mean" k fv_mean) (D_second : Def T "second" k fv_second) : Body T ["flow"] "mean_standing" mean_standing_st k (mean_standing_sv fv_ask_rest fv_over fv_times fv_lacking fv_minus fv_mean fv_second) := by
  refine fun f cdv A outer s H E hr => ?_
  have hu := cx_units hr
  have tk := cx_takes (T := T) (N := ["flow"]) (qual := "mean_standing") (sc := defScope mean_standing_st) (f := f) (cdv := cdv) (A := A) (outer := outer) (s := s) (H := H) (E := E)
  exact (sws_cons (sw_expr (ew_fn D_ask_rest tk hr rfl (aw_cons (ew_var (i := 0)) (aw_cons ew_int aw_nil)))) (sws_one (sw_ret (ew_fn D_over tk hr rfl (aw_cons (ew_fn D_minus tk hr rfl (aw_cons (ew_fn D_second tk hr rfl (aw_cons (ew_var (i := 0)) aw_nil)) (aw_cons (ew_fn D_mean tk hr rfl (aw_cons (ew_var (i := 0)) aw_nil)) aw_nil))) (aw_cons (ew_fn D_times tk hr rfl (aw_cons (ew_tup (aw_cons ew_int (aw_cons ew_int aw_nil))) (aw_cons (ew_fn D_lacking tk hr rfl (aw_cons (ew_var (i := 0)) aw_nil)) aw_nil))) aw_nil))))))
/-! law_feed -/
abbrev law_feed_st : Stmt := top 29
theorem law_feed_sc : FnScope ["_law_script"] ["_law_script"] (defScope law_feed_st) := ⟨rfl, rfl, rfl, by decide +kernel, rfl, by decide +kernel, by decide +kernel⟩
noncomputable def law_feed_sv : Sv := (sRet (eLstS (aCons (eCut cutW (eVar 0) oNone (oSome (eC (.int 63)))) (aCons (eC (.int 0)) (aCons (eC (.int 0)) aNil)))))
theorem law_feed_bd {T : Top} {k : Nat} (M : Mg T) : Body T ["_law_script"] "_law_feed" law_feed_st k (law_feed_sv) := by
  refine fun f cdv A outer s H E hr => ?_
  have hu := cx_units hr
  have tk := cx_takes (T := T) (N := ["_law_script"]) (qual := "_law_feed") (sc := defScope law_feed_st) (f := f) (cdv := cdv) (A := A) (outer := outer) (s := s) (H := H) (E := E)
  exact (sws_one (sw_ret (ew_lstS (aw_cons (ew_cut slw_cut (ew_var (i := 0)) ow_none (ow_some ew_int)) (aw_cons ew_int (aw_cons ew_int aw_nil))))))
/-! law_draw -/
abbrev law_draw_st : Stmt := top 30
theorem law_draw_sc : FnScope ["_law_feed_here", "_law_many", "_law_found", "_law_at", "_law_cell", "_law_first"] ["_law_feed_here", "_law_many"] (defScope law_draw_st) := ⟨rfl, rfl, rfl, by decide +kernel, rfl, by decide +kernel, by decide +kernel⟩
noncomputable def law_draw_sv : Sv := (sSeq (sIf (tVal (eOp gtW (eOp ixW (eVar 0) (eC (.int 2))) (eC (.int 0)))) (sSeq (sAsg (eOp modW (eOp ixW (eVar 0) (eC (.int 2))) (eVar 1)) (gName 2)) (sSeq (sPut putL (eOp fdivW (eOp ixW (eVar 0) (eC (.int 2))) (eVar 1)) (eVar 0) (eC (.int 2))) (sRet (eVar 2)))) sSkip) (sSeq (sAsg (eOp ixW (eVar 0) (eC (.int 1))) (gName 3)) (sSeq (sPut putL (eOp addW (eVar 3) (eC (.int 1))) (eVar 0) (eC (.int 1))) (sSeq (sAsg (eIf (tVal (eOp gtW (eCall lenW (aCons (eOp ixW (eVar 0) (eC (.int 0))) aNil)) (eC (.int 0)))) (eOp ixW (eOp ixW (eVar 0) (eC (.int 0))) (eOp modW (eVar 3) (eCall lenW (aCons (eOp ixW (eVar 0) (eC (.int 0))) aNil)))) (eC (.int 0))) (gName 4)) (sSeq (sIf (tAnd (tVal (eOp geW (eVar 4) (eOp powW (eC (.int 10)) (eC (.int 18))))) (tVal (eOp ltW (eVar 3) (eCall lenW (aCons (eOp ixW (eVar 0) (eC (.int 0))) aNil))))) (sSeq (sPut putL (eOp fdivW (eVar 4) (eVar 1)) (eVar 0) (eC (.int 2))) (sRet (eOp modW (eVar 4) (eVar 1)))) sSkip) (sSeq (sAsg (eOp modW (eOp mulW (eOp addW (eOp addW (eOp addW (eOp modW (eVar 4) (eC (.int 1000003))) (eOp mulW (eOp mulW (eC (.int 47)) (eVar 3)) (eVar 3))) (eOp mulW (eC (.int 31)) (eVar 3))) (eC (.int 907))) (eC (.int 40009))) (eC (.int 999961))) (gName 5)) (sSeq (sAsg (eOp modW (eOp addW (eOp addW (eOp mulW (eVar 5) (eVar 5)) (eOp mulW (eC (.int 38317)) (eVar 3))) (eC (.int 101))) (eC (.int 2097143))) (gName 5)) (sRet (eOp modW (eOp fdivW (eOp modW (eOp mulW (eVar 5) (eC (.int 48271))) (eC (.int 2147483629))) (eC (.int 7))) (eVar 1))))))))))
theorem law_draw_bd {T : Top} {k : Nat} (M : Mg T) : Body T ["_law_feed_here", "_law_many", "_law_found", "_law_at", "_law_cell", "_law_first"] "_law_draw" law_draw_st k (law_draw_sv) := by
  refine fun f cdv A outer s H E hr => ?_
  have hu := cx_units hr
  have tk := cx_takes (T := T) (N := ["_law_feed_here", "_law_many", "_law_found", "_law_at", "_law_cell", "_law_first"]) (qual := "_law_draw") (sc := defScope law_draw_st) (f := f) (cdv := cdv) (A := A) (outer := outer) (s := s) (H := H) (E := E)
  exact (sws_cons (sw_if (tw_cmp ow_gt (ew_ix iw_seq (ew_var (i := 0)) ew_int) ew_int) (sws_cons (sw_set (i := 2) law_draw_sc.nd (ew_op ow_mod (ew_ix iw_seq (ew_var (i := 0)) ew_int) (ew_var (i := 1)))) (sws_cons (sw_put pw_list (ew_op ow_fdiv (ew_ix iw_seq (ew_var (i := 0)) ew_int) (ew_var (i := 1))) (ew_var (i := 0)) ew_int) (sws_one (sw_ret (ew_var (i := 2)))))) sws_nil) (sws_cons (sw_set (i := 3) law_draw_sc.nd (ew_ix iw_seq (ew_var (i := 0)) ew_int)) (sws_cons (sw_put pw_list (ew_op ow_add (ew_var (i := 3)) ew_int) (ew_var (i := 0)) ew_int) (sws_cons (sw_set (i := 4) law_draw_sc.nd (ew_if (tw_cmp ow_gt (ew_callB cw_len rfl M.m_len PySem.boot_len (aw_cons (ew_ix iw_seq (ew_var (i := 0)) ew_int) aw_nil)) ew_int) (ew_ix iw_seq (ew_ix iw_seq (ew_var (i := 0)) ew_int) (ew_op ow_mod (ew_var (i := 3)) (ew_callB cw_len rfl M.m_len PySem.boot_len (aw_cons (ew_ix iw_seq (ew_var (i := 0)) ew_int) aw_nil)))) ew_int)) (sws_cons (sw_if (tw_of (pww_and (tw_cmp ow_ge (ew_var (i := 4)) (ew_op ow_pow ew_int ew_int)) (pww_and1 (tw_cmp ow_lt (ew_var (i := 3)) (ew_callB cw_len rfl M.m_len PySem.boot_len (aw_cons (ew_ix iw_seq (ew_var (i := 0)) ew_int) aw_nil)))))) (sws_cons (sw_put pw_list (ew_op ow_fdiv (ew_var (i := 4)) (ew_var (i := 1))) (ew_var (i := 0)) ew_int) (sws_one (sw_ret (ew_op ow_mod (ew_var (i := 4)) (ew_var (i := 1)))))) sws_nil) (sws_cons (sw_set (i := 5) law_draw_sc.nd (ew_op ow_mod (ew_op ow_mul (ew_op ow_add (ew_op ow_add (ew_op ow_add (ew_op ow_mod (ew_var (i := 4)) ew_int) (ew_op ow_mul (ew_op ow_mul ew_int (ew_var (i := 3))) (ew_var (i := 3)))) (ew_op ow_mul ew_int (ew_var (i := 3)))) ew_int) ew_int) ew_int)) (sws_cons (sw_set (i := 5) law_draw_sc.nd (ew_op ow_mod (ew_op ow_add (ew_op ow_add (ew_op ow_mul (ew_var (i := 5)) (ew_var (i := 5))) (ew_op ow_mul ew_int (ew_var (i := 3)))) ew_int) ew_int)) (sws_one (sw_ret (ew_op ow_mod (ew_op ow_fdiv (ew_op ow_mod (ew_op ow_mul (ew_var (i := 5)) ew_int) ew_int) ew_int) (ew_var (i := 1))))))))))))
/-! law_frac -/
abbrev law_frac_st : Stmt := top 31
theorem law_frac_sc : FnScope ["_law_top", "_law_bottom", "_law_one", "_law_other"] ["_law_top", "_law_bottom"] (defScope law_frac_st) := ⟨rfl, rfl, rfl, by decide +kernel, rfl, by decide +kernel, by decide +kernel⟩
noncomputable def law_frac_sv : Sv := (sSeq (sPar 2 3 (aCons (eCall absW (aCons (eVar 0) aNil)) (aCons (eVar 1) aNil))) (sSeq (sWhile (tVal (eOp gtW (eVar 3) (eC (.int 0)))) (sPar 2 3 (aCons (eVar 3) (aCons (eOp modW (eVar 2) (eVar 3)) aNil)))) (sRet (eTup (aCons (eOp fdivW (eVar 0) (eVar 2)) (aCons (eOp fdivW (eVar 1) (eVar 2)) aNil))))))
theorem law_frac_bd {T : Top} {k : Nat} (M : Mg T) : Body T ["_law_top", "_law_bottom", "_law_one", "_law_other"] "_law_frac" law_frac_st k (law_frac_sv) := by
  refine fun f cdv A outer s H E hr => ?_
  have hu := cx_units hr
  have tk := cx_takes (T := T) (N := ["_law_top", "_law_bottom", "_law_one", "_law_other"]) (qual := "_law_frac") (sc := defScope law_frac_st) (f := f) (cdv := cdv) (A := A) (outer := outer) (s := s) (H := H) (E := E)
  exact (sws_cons (sw_par (i := 2) (j := 3) rfl law_frac_sc.nd rfl rfl (by decide) rfl rfl (aw_cons (ew_callB cw_abs rfl M.m_abs PyProof.Rows.boot_abs (aw_cons (ew_var (i := 0)) aw_nil)) (aw_cons (ew_var (i := 1)) aw_nil)) rfl) (sws_cons (sw_while cx_passes (tw_cmp ow_gt (ew_var (i := 3)) ew_int) (sws_one (sw_par (i := 2) (j := 3) rfl law_frac_sc.nd rfl rfl (by decide) rfl rfl (aw_cons (ew_var (i := 3)) (aw_cons (ew_op ow_mod (ew_var (i := 2)) (ew_var (i := 3))) aw_nil)) rfl))) (sws_one (sw_ret (ew_tup (aw_cons (ew_op ow_fdiv (ew_var (i := 0)) (ew_var (i := 2))) (aw_cons (ew_op ow_fdiv (ew_var (i := 1)) (ew_var (i := 2))) aw_nil)))))))
/-! law_flow -/
abbrev law_flow_st : Stmt := top 32
theorem law_flow_sc : FnScope ["_law_feed_here", "_law_way", "_law_many", "_law_often", "_law_lots", "_law_k"] ["_law_feed_here"] (defScope law_flow_st) := ⟨rfl, rfl, rfl, by decide +kernel, rfl, by decide +kernel, by decide +kernel⟩
noncomputable def law_flow_sv (fv_law_draw : Fv) : Sv := (sSeq (sAsg (eFn fv_law_draw (aCons (eVar 0) (aCons (eC (.int 5)) aNil))) (gName 1)) (sSeq (sAsg (eFn fv_law_draw (aCons (eVar 0) (aCons (eC (.int 9)) aNil))) (gName 2)) (sSeq (sIf (tVal (eOp eqW (eVar 1) (eC (.int 0)))) (sSeq (sAsg (eOp addW (eC (.int 1)) (eFn fv_law_draw (aCons (eVar 0) (aCons (eC (.int 12)) aNil)))) (gName 3)) (sRet (eTup (aCons (eVar 3) (aCons (eFn fv_law_draw (aCons (eVar 0) (aCons (eC (.int 13)) aNil))) (aCons (eVar 3) aNil)))))) sSkip) (sSeq (sIf (tVal (eOp eqW (eVar 1) (eC (.int 1)))) (sRet (eTup (aCons (eC (.int 0)) (aCons (eOp addW (eC (.int 1)) (eFn fv_law_draw (aCons (eVar 0) (aCons (eC (.int 12)) aNil)))) aNil)))) sSkip) (sSeq (sAsg (eComp (iRange1 (aCons (eVar 2) aNil)) (gName 5) tYes (eFn fv_law_draw (aCons (eVar 0) (aCons (eC (.int 13)) aNil))) [5]) (gName 4)) (sSeq (sIf (tVal (eOp ltW (eVar 1) (eC (.int 4)))) (sAsg (eOp addW (eLst (aCons (eC (.int 12)) aNil)) (eComp (iRange1 (aCons (eOp subW (eVar 2) (eC (.int 1))) aNil)) (gName 5) tYes (eFn fv_law_draw (aCons (eVar 0) (aCons (eC (.int 2)) aNil))) [5])) (gName 4)) sSkip) (sRet (eOp addW (eCall tupleW (aCons (eVar 4) aNil)) (eTup (aCons (eOp addW (eC (.int 1)) (eFn fv_law_draw (aCons (eVar 0) (aCons (eOp ixW (eLst (aCons (eC (.int 12)) (aCons (eC (.int 2)) aNil))) (eCall intW (aCons (eOp eqW (eVar 1) (eC (.int 3))) aNil))) aNil)))) aNil))))))))))
theorem law_flow_bd {T : Top} {fv_law_draw : Fv} {k : Nat} (M : Mg T) (D_law_draw : Def T "_law_draw" k fv_law_draw) : Body T ["_law_feed_here", "_law_way", "_law_many", "_law_often", "_law_lots", "_law_k"] "_law_flow" law_flow_st k (law_flow_sv fv_law_draw) := by
  refine fun f cdv A outer s H E hr => ?_
  have hu := cx_units hr
  have tk := cx_takes (T := T) (N := ["_law_feed_here", "_law_way", "_law_many", "_law_often", "_law_lots", "_law_k"]) (qual := "_law_flow") (sc := defScope law_flow_st) (f := f) (cdv := cdv) (A := A) (outer := outer) (s := s) (H := H) (E := E)
  exact (sws_cons (sw_set (i := 1) law_flow_sc.nd (ew_fn D_law_draw tk hr rfl (aw_cons (ew_var (i := 0)) (aw_cons ew_int aw_nil)))) (sws_cons (sw_set (i := 2) law_flow_sc.nd (ew_fn D_law_draw tk hr rfl (aw_cons (ew_var (i := 0)) (aw_cons ew_int aw_nil)))) (sws_cons (sw_if (tw_cmp (ow_eq hu) (ew_var (i := 1)) ew_int) (sws_cons (sw_set (i := 3) law_flow_sc.nd (ew_op ow_add ew_int (ew_fn D_law_draw tk hr rfl (aw_cons (ew_var (i := 0)) (aw_cons ew_int aw_nil))))) (sws_one (sw_ret (ew_tup (aw_cons (ew_var (i := 3)) (aw_cons (ew_fn D_law_draw tk hr rfl (aw_cons (ew_var (i := 0)) (aw_cons ew_int aw_nil))) (aw_cons (ew_var (i := 3)) aw_nil))))))) sws_nil) (sws_cons (sw_if (tw_cmp (ow_eq hu) (ew_var (i := 1)) ew_int) (sws_one (sw_ret (ew_tup (aw_cons ew_int (aw_cons (ew_op ow_add ew_int (ew_fn D_law_draw tk hr rfl (aw_cons (ew_var (i := 0)) (aw_cons ew_int aw_nil)))) aw_nil))))) sws_nil) (sws_cons (sw_setLc (i := 4) rfl law_flow_sc.nd (own := [("_law_k", 5)]) (iw_range1 rfl M.m_range (aw_cons (ew_var (i := 2)) aw_nil)) (show blkC ["_law_feed_here", "_law_way", "_law_many", "_law_often", "_law_lots", "_law_k"] (defScope law_flow_st) _ [("_law_k", 5)] = true by decide +kernel) (fun _ _ _ _ _ => (gw_name law_flow_sc.nd (i := 5))) (fun _ _ _ _ _ => cwt_nil) (fun _ _ _ _ _ => (ew_fn D_law_draw takesNo hr rfl (aw_cons (ew_var (i := 0)) (aw_cons ew_int aw_nil))))) (sws_cons (sw_if (tw_cmp ow_lt (ew_var (i := 1)) ew_int) (sws_one (sw_set (i := 4) law_flow_sc.nd (ew_op ow_add (ew_lst (aw_cons ew_int aw_nil)) (ew_comp rfl law_flow_sc.nd (own := [("_law_k", 5)]) (iw_range1 rfl M.m_range (aw_cons (ew_op ow_sub (ew_var (i := 2)) ew_int) aw_nil)) (show blkC ["_law_feed_here", "_law_way", "_law_many", "_law_often", "_law_lots", "_law_k"] (defScope law_flow_st) _ [("_law_k", 5)] = true by decide +kernel) (fun _ _ _ _ _ => (gw_name law_flow_sc.nd (i := 5))) (fun _ _ _ _ _ => cwt_nil) (fun _ _ _ _ _ => (ew_fn D_law_draw takesNo hr rfl (aw_cons (ew_var (i := 0)) (aw_cons ew_int aw_nil)))))))) sws_nil) (sws_one (sw_ret (ew_op ow_add (ew_callTy cw_tuple rfl M.m_tuple PyProof.Rows.boot_tuple (aw_cons (ew_var (i := 4)) aw_nil)) (ew_tup (aw_cons (ew_op ow_add ew_int (ew_fn D_law_draw tk hr rfl (aw_cons (ew_var (i := 0)) (aw_cons (ew_ix iw_seq (ew_lst (aw_cons ew_int (aw_cons ew_int aw_nil))) (ew_callTy cw_int rfl M.m_int PyProof.Rows.boot_int (aw_cons (ew_cmp (ow_eq hu) (ew_var (i := 1)) ew_int) aw_nil))) aw_nil)))) aw_nil)))))))))))
/-! law_due -/
abbrev law_due_st : Stmt := top 33
theorem law_due_sc : FnScope ["_law_flow_here", "_law_w", "_law_whole", "_law_work", "_law_k", "_law_lot", "_law_squares", "_law_found", "_law_one", "_law_word"] ["_law_flow_here", "_law_w"] (defScope law_due_st) := ⟨rfl, rfl, rfl, by decide +kernel, rfl, by decide +kernel, by decide +kernel⟩
noncomputable def law_due_sv (fv_law_frac : Fv) : Sv := (sSeq (sAsg (eCall sumTW (aCons (eVar 0) aNil)) (gName 2)) (sSeq (sAsg (eCall sumW (aCons (eComp (iEnum' (aCons (eVar 0) aNil)) (gTup [(gName 4), (gName 5)]) tYes (eOp mulW (eVar 4) (eVar 5)) [4, 5]) aNil)) (gName 3)) (sSeq (sAsg (eCall sumW (aCons (eComp (iEnum' (aCons (eVar 0) aNil)) (gTup [(gName 4), (gName 5)]) tYes (eOp mulW (eOp mulW (eVar 4) (eVar 4)) (eVar 5)) [4, 5]) aNil)) (gName 6)) (sSeq (sIf (tVal (eOp ltW (eVar 3) (eVar 2))) (sSeq (sAsg (eLst (aCons (eFn fv_law_frac (aCons (eOp mulW (eVar 1) (eVar 2)) (aCons (eOp subW (eVar 2) (eVar 3)) aNil))) (aCons (eFn fv_law_frac (aCons (eOp subW (eVar 6) (eVar 3)) (aCons (eOp mulW (eC (.int 2)) (eOp subW (eVar 2) (eVar 3))) aNil))) aNil))) (gName 7)) (sRet (eComp (iSeq (eVar 7)) (gName 8) tYes (eTup (aCons (eC (.str "told")) (aCons (eVar 8) aNil))) [8]))) sSkip) (sSeq (sAsg (eIf (tVal (eOp gtW (eVar 3) (eVar 2))) (eC (.str "runs")) (eC (.str "swings"))) (gName 9)) (sSeq (sIf (tAnd (tVal (eOp eqW (eCall lenW (aCons (eVar 0) aNil)) (eC (.int 2)))) (tVal (eOp eqW (eOp ixW (eVar 0) (eC (.int 0))) (eC (.int 0))))) (sAsg (eC (.str "still")) (gName 9)) sSkip) (sRet (eLst (aCons (eTup (aCons (eC (.str "no")) (aCons (eVar 9) aNil))) (aCons (eTup (aCons (eC (.str "no")) (aCons (eVar 9) aNil))) aNil))))))))))
theorem law_due_bd {T : Top} {fv_law_frac : Fv} {k : Nat} (M : Mg T) (D_law_frac : Def T "_law_frac" k fv_law_frac) : Body T ["_law_flow_here", "_law_w", "_law_whole", "_law_work", "_law_k", "_law_lot", "_law_squares", "_law_found", "_law_one", "_law_word"] "_law_due" law_due_st k (law_due_sv fv_law_frac) := by
  refine fun f cdv A outer s H E hr => ?_
  have hu := cx_units hr
  have tk := cx_takes (T := T) (N := ["_law_flow_here", "_law_w", "_law_whole", "_law_work", "_law_k", "_law_lot", "_law_squares", "_law_found", "_law_one", "_law_word"]) (qual := "_law_due") (sc := defScope law_due_st) (f := f) (cdv := cdv) (A := A) (outer := outer) (s := s) (H := H) (E := E)
  exact (sws_cons (sw_set (i := 2) law_due_sc.nd (ew_callB (cw_sumT rfl) rfl M.m_sum PyProof.Rows.boot_sum (aw_cons (ew_var (i := 0)) aw_nil))) (sws_cons (sw_set (i := 3) law_due_sc.nd (ew_callB (cw_sum rfl) rfl M.m_sum PyProof.Rows.boot_sum (aw_cons (ew_comp rfl law_due_sc.nd (own := [("_law_k", 4), ("_law_lot", 5)]) (iw_enum rfl M.m_enumerate (aw_cons (ew_var (i := 0)) aw_nil)) (show blkC ["_law_flow_here", "_law_w", "_law_whole", "_law_work", "_law_k", "_law_lot", "_law_squares", "_law_found", "_law_one", "_law_word"] (defScope law_due_st) _ [("_law_k", 4), ("_law_lot", 5)] = true by decide +kernel) (fun _ _ _ _ _ => (gw_tup rfl (gws_cons (gw_name law_due_sc.nd (i := 4)) (gws_cons (gw_name law_due_sc.nd (i := 5)) gws_nil)))) (fun _ _ _ _ _ => cwt_nil) (fun _ _ _ _ _ => (ew_op ow_mul (ew_var (i := 4)) (ew_var (i := 5))))) aw_nil))) (sws_cons (sw_set (i := 6) law_due_sc.nd (ew_callB (cw_sum rfl) rfl M.m_sum PyProof.Rows.boot_sum (aw_cons (ew_comp rfl law_due_sc.nd (own := [("_law_k", 4), ("_law_lot", 5)]) (iw_enum rfl M.m_enumerate (aw_cons (ew_var (i := 0)) aw_nil)) (show blkC ["_law_flow_here", "_law_w", "_law_whole", "_law_work", "_law_k", "_law_lot", "_law_squares", "_law_found", "_law_one", "_law_word"] (defScope law_due_st) _ [("_law_k", 4), ("_law_lot", 5)] = true by decide +kernel) (fun _ _ _ _ _ => (gw_tup rfl (gws_cons (gw_name law_due_sc.nd (i := 4)) (gws_cons (gw_name law_due_sc.nd (i := 5)) gws_nil)))) (fun _ _ _ _ _ => cwt_nil) (fun _ _ _ _ _ => (ew_op ow_mul (ew_op ow_mul (ew_var (i := 4)) (ew_var (i := 4))) (ew_var (i := 5))))) aw_nil))) (sws_cons (sw_if (tw_cmp ow_lt (ew_var (i := 3)) (ew_var (i := 2))) (sws_cons (sw_set (i := 7) law_due_sc.nd (ew_lst (aw_cons (ew_fn D_law_frac tk hr rfl (aw_cons (ew_op ow_mul (ew_var (i := 1)) (ew_var (i := 2))) (aw_cons (ew_op ow_sub (ew_var (i := 2)) (ew_var (i := 3))) aw_nil))) (aw_cons (ew_fn D_law_frac tk hr rfl (aw_cons (ew_op ow_sub (ew_var (i := 6)) (ew_var (i := 3))) (aw_cons (ew_op ow_mul ew_int (ew_op ow_sub (ew_var (i := 2)) (ew_var (i := 3)))) aw_nil))) aw_nil)))) (sws_one (sw_ret (ew_comp rfl law_due_sc.nd (own := [("_law_one", 8)]) (iw_seqI (ew_var (i := 7))) (show blkC ["_law_flow_here", "_law_w", "_law_whole", "_law_work", "_law_k", "_law_lot", "_law_squares", "_law_found", "_law_one", "_law_word"] (defScope law_due_st) _ [("_law_one", 8)] = true by decide +kernel) (fun _ _ _ _ _ => (gw_name law_due_sc.nd (i := 8))) (fun _ _ _ _ _ => cwt_nil) (fun _ _ _ _ _ => (ew_tup (aw_cons ew_str (aw_cons (ew_var (i := 8)) aw_nil)))))))) sws_nil) (sws_cons (sw_set (i := 9) law_due_sc.nd (ew_if (tw_cmp ow_gt (ew_var (i := 3)) (ew_var (i := 2))) ew_str ew_str)) (sws_cons (sw_if (tw_of (pww_and (tw_cmp (ow_eq hu) (ew_callB cw_len rfl M.m_len PySem.boot_len (aw_cons (ew_var (i := 0)) aw_nil)) ew_int) (pww_and1 (tw_cmp (ow_eq hu) (ew_ix iw_seq (ew_var (i := 0)) ew_int) ew_int)))) (sws_one (sw_set (i := 9) law_due_sc.nd ew_str)) sws_nil) (sws_one (sw_ret (ew_lst (aw_cons (ew_tup (aw_cons ew_str (aw_cons (ew_var (i := 9)) aw_nil))) (aw_cons (ew_tup (aw_cons ew_str (aw_cons (ew_var (i := 9)) aw_nil))) aw_nil)))))))))))
end K59
end HW
namespace HW
open PySem L2
open PyProof.Rows hiding St
namespace K59
/-! told: the def that gets the lambdas -/
abbrev told_st : Stmt := top 34
abbrev told_N : List Str := ["_law_ask", "_law_found", "e", "_law_strange"]
abbrev lamQ : Str := (("_law_right" : Str) ++ ".<locals>.") ++ "<lambda>"
theorem told_sc : FnScope told_N ["_law_ask"] (defScope told_st) := ⟨rfl, rfl, rfl, by decide +kernel, rfl, by decide +kernel, by decide +kernel⟩
/-- NoRest is what may be caught here -/
def isa59 (b : Bool) : Str → Option Bool := fun c => if c = "NoRest" then some b else none
def kn59 : Str → Bool := fun c => decide (c = "NoRest")
def su59 : Sx := sSeqU (fun c fs => sAsg (eIs (isa59 false) c fs) (gName 3)) (sIfU (fun c fs => tAnd (tVal (eIs (isa59 true) c fs)) (tAnd (tVal (eIs (isa59 true) c fs)) (tNot (tVal (eVar 3)))))
  (fun c fs => sAsg (eTup (aCons (eC (.str "no")) (aCons (eFld kn59 "word" c fs) aNil))) (gName 1)) (fun _ _ => sSkip))
/-- what the top says of it -/
structure Told (T : Top) (c P : Addr) : Prop where
  me : ∃ (g : Addr) (kV doc pm cdv ct oc : Value) (an od : Option Addr) (osl : Array (Option Value)), T.mg "_law_told" = some (.ref g) ∧ PySem.W.keepIn T.K (.ref g) = true ∧
    T.K.lookup g = some ⟨oc, od, .func (PySem.W.fnOf "_law_told" "_law_told" (defArgs told_st) (defBody told_st) (defScope told_st) .none kV doc pm an cdv ct), osl⟩ ∧ PySem.W.codeIn T.K cdv "_law_told" = true
  tb : LamX.TabB T.base T.mg c P
  mT : (P, lamQ) ∈ T.cm.T
  uT : ∀ p ∈ T.cm.T, p.1 = P → p.2 = lamQ
  wait : ∃ cw, T.mg "WaitError" = some (.ref cw) ∧ PySem.W.exmOne T.K (.ref (T.cm "NoRest")) (.ref cw) = some true
  mi : T.mg "isinstance" = none
  mv : T.mg "ValueError" = none
  nr : T.mg "NoRest" = some (.ref (T.cm "NoRest"))
  ex : ExcF T.K (T.cm "NoRest")
  nf : PySem.W.findIn T.K (.ref (T.cm "NoRest")) "word" = some none
  isV : PySem.W.kitOne T.K (.ref (T.cm "NoRest")) (.type "ValueError") = some true
  oth : ∃ a1 a2 a3 a4 a5 a6 a7 : Addr, T.mg "NoBeat" = some (.ref a1) ∧ T.mg "NoComer" = some (.ref a2) ∧ T.mg "NoHouse" = some (.ref a3) ∧ T.mg "NoPaper" = some (.ref a4) ∧ T.mg "NoRow" = some (.ref a5) ∧ T.mg "NoText" = some (.ref a6) ∧ T.mg "TooMany" = some (.ref a7) ∧
    PySem.W.kitAny T.K (.ref (T.cm "NoRest")) ([a1, a2, a3, a4, a5, a6, a7].map Value.ref) = some false
theorem isa59_some {b b' : Bool} {c : Str} (h : isa59 b c = some b') : c = "NoRest" ∧ b' = b := by
  unfold isa59 at h
  split at h
  · exact ⟨by assumption, (Option.some.inj h).symm⟩
  · cases h
theorem told_su {T : Top} {c P : Addr} (TD : Told T c P) (N : List Str) (qual : Str) (sc : Scope) (f : Addr) (cdv : Value) (A : Around) (outer : List PySem.Env) (s0 : Shared) (H0 : Hp) (E : XK) (g : Addr) (cdg : Value) (s : Shared) (H : Hp) (a : Addr) (oe : Obj) (cls : Value) (d : Option Addr) (pn : List (Addr × Obj)) (hz : Zc cls d oe) (hf : ∃ vs, oe.data = .fields vs) :
    PSs ((cxOf C8.CX0 T.P T.w T.K T.mg T.base told_N "_law_told" (defScope told_st) g cdg (T.cx N qual sc f cdv A outer s0 H0 E).A (T.cx N qual sc f cdv A outer s0 H0 E).stack s H C8.E0).nox.suite a ((a, oe) :: pn))
      (match (defBody told_st).getD 1 (.Pass ⟨0, 0, 0, 0⟩) with
        | .Try _ [.ExceptHandler _ _ su _] _ _ _ => su
        | _ => []) (liftU ⟨T.K, T.cm⟩ 2 a cls d su59) := by
  obtain ⟨a1, a2, a3, a4, a5, a6, a7, h1, h2, h3, h4, h5, h6, h7, hA⟩ := TD.oth
  have hT : ∀ c b, isa59 false c = some b → ExcF T.K (T.cm c) ∧ PySem.W.kitAny T.K (.ref (T.cm c)) ([a1, a2, a3, a4, a5, a6, a7].map Value.ref) = some b := fun c b h => by
    obtain ⟨rfl, rfl⟩ := isa59_some h
    exact ⟨TD.ex, hA⟩
  have hN : ∀ c b, isa59 true c = some b → ExcF T.K (T.cm c) ∧ PySem.W.kitOne T.K (.ref (T.cm c)) (.ref (T.cm "NoRest")) = some b := fun c b h => by
    obtain ⟨rfl, rfl⟩ := isa59_some h
    exact ⟨TD.ex, by unfold PySem.W.kitOne; simp⟩
  have hV : ∀ c b, isa59 true c = some b → ExcF T.K (T.cm c) ∧ PySem.W.kitOne T.K (.ref (T.cm c)) (.type "ValueError") = some b := fun c b h => by
    obtain ⟨rfl, rfl⟩ := isa59_some h
    exact ⟨TD.ex, TD.isV⟩
  have hF : ∀ c, kn59 c = true → ExcF T.K (T.cm c) ∧ PySem.W.findIn T.K (.ref (T.cm c)) "word" = some none := fun c h => by
    have : c = "NoRest" := by simpa [kn59] using h
    subst this
    exact ⟨TD.ex, TD.nf⟩
  exact su_setThen (j := 3) (by decide) told_sc.nd (eu_isT hz hf rfl TD.mi hT (by simp) (pv 2) (pa_refs rfl h1 (pa_refs rfl h2 (pa_refs rfl h3 (pa_refs rfl h4 (pa_refs rfl h5 (pa_refs rfl h6 (pa_refs rfl h7 pa_refs_nil))))))))
    (su_one (su_if (tu_of_pw (pwu_and (tu_val (eu_is hz hf rfl TD.mi hN (.inl ⟨_, rfl, rfl⟩) (pv 2) (pe_glob (v := .ref (T.cm "NoRest")) rfl TD.nr rfl))) (pwu_and (tu_val (eu_is hz hf rfl TD.mi hV (.inr ⟨_, rfl, rfl⟩) (pv 2) (pe_bty rfl TD.mv PyProof.Rows.Boot.«ValueError»))) (pwu_and1 (tu_of (tw_not (tw_val (ew_var (i := 3)))))))))
      (su_one (su_set (j := 1) (by decide) told_sc.nd (eu_tup (au_cons (eu_of ew_str) (au_cons (eu_fld hz hf hF (pv 2)) au_nil))))) su_nil))
theorem told_e {T : Top} {c P : Addr} (TD : Told T c P) {N : List Str} {sc : Scope} {f : Addr} {A : Around} {outer : List PySem.Env} {s : Shared} {H : Hp} {E : XK} {k : Nat} {params : Arguments} {body : Expr} {scope : Scope} {p lpos pos : Pos} {lf : Ev}
    (hr : Room (k + 2) (A.deeper (envOfC "_law_right" sc s.heap.objs.size f (.ref c)))) (L : LamX.LamS sc scope) (hdef : defaultsOf params (T.cx N "_law_right" sc f (.ref c) A outer s H E).env = ([], []))
    (hbind : ∀ (q : Str) (cl : List (Str × Addr)) (pm cv ctv : Value), bindArgs (PySem.W.kla_fn "<lambda>" q params body scope cl pm cv ctv) ⟨[], []⟩ = pure [])
    (hbody : ∀ (A' : Around) (outer' : List PySem.Env) (s' : Shared) (H' : Hp) (E' : XK) (f' c' : Addr), Room k (A'.deeper (LamX.lamEnv (T.cx N "_law_right" sc f (.ref c) A outer s H E) scope s'.heap.objs.size f' c')) →
      EW (LamX.lamCx (T.cx N "_law_right" sc f (.ref c) A outer s H E) A' outer' s' H' E' scope f' c') T.cm (xwE E') body lf)
    (hg : Gl (T.cx N "_law_right" sc f (.ref c) A outer s H E) "_law_told" := by rfl) :
    EW (T.cx N "_law_right" sc f (.ref c) A outer s H E) T.cm (xwE E) (.Call (.Name "_law_told" p) [.Lambda params body scope lpos] [] pos) (eTold "told" (isa59 true) su59 4 lf) := by
  obtain ⟨g, kV, doc, pm, cdv, ct, oc, an, od, osl, h1, h2, h3, h4⟩ := TD.me
  obtain ⟨cw, hw, hx⟩ := TD.wait
  refine ew_told (n := "e") (fn := "_law_found") (xc := "WaitError") (Ng := told_N) (a := "_law_ask") (cv := .ref cw) (o := "other") (fun c b h => ?_) hg h1 h2 h3 h4 (.all fun us hl => match us, hl with | [_], _ => rfl) told_sc rfl (.inl rfl) ?_ TD.tb rfl TD.mT TD.uT hr L hdef hbind hbody
  · obtain ⟨rfl, rfl⟩ := isa59_some h
    exact hx
  · exact told_gives (X := T.cx N "_law_right" sc f (.ref c) A outer s H E) (fn := "_law_found") (n := "e") (xc := "WaitError") (fun f => rfl) told_sc.nd (by decide) rfl rfl rfl (by decide) hw
      (fun s H => ps_set (i := 1) told_sc.nd rfl (.inl rfl) (pe_tup (pa_cons pe_str pa_nil)))
      (fun s H pn xe tc h => ps_set (i := 1) told_sc.nd rfl (.inl rfl) (pe_tup (pa_cons pe_str (pa_cons h pa_nil))))
      (fun s H => ps_ret (pv 1))
      (fun s H a oe cls d pn hz hf => told_su TD _ _ _ _ _ _ _ _ _ _ _ _ s H a oe cls d pn hz hf)
end K59
end HW
namespace HW
open PySem L2
open PyProof.Rows hiding St
namespace K59
/-! law_right -/
abbrev law_right_st : Stmt := top 35
theorem law_right_sc : FnScope ["_law_flow_here", "_law_w", "_law_found"] ["_law_flow_here", "_law_w"] (defScope law_right_st) := ⟨rfl, rfl, rfl, by decide +kernel, rfl, by decide +kernel, by decide +kernel⟩
noncomputable def law_right_sv (fv_empty_mean fv_mean_standing fv_law_due : Fv) : Sv := (sSeq (sAsg (eLstS (aCons (eTold "told" (isa59 true) su59 4 (eFn fv_empty_mean (aCons (eVar 0) (aCons (eVar 1) aNil)))) aNil)) (gName 2)) (sSeq (sExpr (eMt isListB appW (eVar 2) (aCons (eTold "told" (isa59 true) su59 4 (eFn fv_mean_standing (aCons (eVar 0) aNil))) aNil))) (sRet (eOp eqSW (eCall reprW (aCons (eVar 2) aNil)) (eCall reprW (aCons (eFn fv_law_due (aCons (eVar 0) (aCons (eVar 1) aNil))) aNil))))))
theorem law_right_bd {T : Top} {fv_empty_mean fv_mean_standing fv_law_due : Fv} {k : Nat} {c P : Addr} (M : Mg T) (TD : Told T c P) (D_empty_mean : Def T "empty_mean" k fv_empty_mean) (D_mean_standing : Def T "mean_standing" k fv_mean_standing) (D_law_due : Def T "_law_due" k fv_law_due) : BodyGC T ["_law_flow_here", "_law_w", "_law_found"] "_law_right" law_right_st (k + 2) c (law_right_sv fv_empty_mean fv_mean_standing fv_law_due) := by
  refine fun f A outer s H E hr0 hgd => ?_
  have hr := hr0.mono (by omega : k ≤ k + 2)
  have hu := cx_units hr
  have tk := cx_takes (T := T) (N := ["_law_flow_here", "_law_w", "_law_found"]) (qual := "_law_right") (sc := defScope law_right_st) (f := f) (cdv := .ref c) (A := A) (outer := outer) (s := s) (H := H) (E := E)
  exact (sws_cons (sw_set (i := 2) law_right_sc.nd (ew_lstS (aw_cons (told_e TD hr0 (LamX.lamS_by (by decide +kernel)) rfl (fun _ _ _ _ _ => rfl) (fun A' outer' s' H' E' f' c' hr2 => (ew_fn D_empty_mean lam_takes hr2 rfl (aw_cons (ew_var (i := 0)) (aw_cons (ew_var (i := 1)) aw_nil))))) aw_nil))) (sws_cons (sw_expr (ew_mt tyw_list mw_append (ew_var (i := 2)) (aw_cons (told_e TD hr0 (LamX.lamS_by (by decide +kernel)) rfl (fun _ _ _ _ _ => rfl) (fun A' outer' s' H' E' f' c' hr2 => (ew_fn D_mean_standing lam_takes hr2 rfl (aw_cons (ew_var (i := 0)) aw_nil)))) aw_nil) PySem.F.plainAttrs_list PySem.F.slot_list_append PySem.F.type_list_append)) (sws_one (sw_ret (ew_cmp ow_eqS (ew_callB (cw_repr hgd hu) rfl M.m_repr PyProof.Rows.boot_repr (aw_cons (ew_var (i := 2)) aw_nil)) (ew_callB (cw_repr hgd hu) rfl M.m_repr PyProof.Rows.boot_repr (aw_cons (ew_fn D_law_due tk hr rfl (aw_cons (ew_var (i := 0)) (aw_cons (ew_var (i := 1)) aw_nil))) aw_nil)))))))
/-! law -/
abbrev law_st : Stmt := top 36
theorem law_sc : FnScope ["_law_script", "_law_feed_here", "_law_k", "_law_flow_here", "_law_w"] ["_law_script"] (defScope law_st) := ⟨rfl, rfl, rfl, by decide +kernel, rfl, by decide +kernel, by decide +kernel⟩
noncomputable def law_sv (fv_law_feed fv_law_flow fv_law_draw fv_law_right : Fv) : Sv := (sSeq (sAsg (eFn fv_law_feed (aCons (eVar 0) aNil)) (gName 1)) (sSeq (sFor (iRange1 (aCons (eC (.int 6)) aNil)) (gName 2) (sSeq (sAsg (eFn fv_law_flow (aCons (eVar 1) aNil)) (gName 3)) (sSeq (sAsg (eFn fv_law_draw (aCons (eVar 1) (aCons (eC (.int 17)) aNil))) (gName 4)) (sIf (tOr (tNot (tVal (eFn fv_law_right (aCons (eVar 3) (aCons (eVar 4) aNil))))) (tOr (tNot (tVal (eFn fv_law_right (aCons (eVar 3) (aCons (eC (.int 0)) aNil))))) (tNot (tVal (eFn fv_law_right (aCons (eVar 3) (aCons (eVar 4) aNil))))))) (sRet (eC (.bl false))) sSkip)))) (sRet (eAnd (eFn fv_law_right (aCons (eTup (aCons (eC (.int 1)) aNil)) (aCons (eC (.int 16)) aNil))) (eAnd (eFn fv_law_right (aCons (eTup (aCons (eC (.int 0)) (aCons (eC (.int 1)) aNil))) (aCons (eC (.int 3)) aNil))) (eAnd (eFn fv_law_right (aCons (eTup (aCons (eC (.int 1)) (aCons (eC (.int 0)) (aCons (eC (.int 1)) aNil)))) (aCons (eC (.int 0)) aNil))) (eFn fv_law_right (aCons (eTup (aCons (eC (.int 11)) (aCons (eC (.int 0)) (aCons (eC (.int 1)) aNil)))) (aCons (eC (.int 1)) aNil)))))))))
theorem law_bd {T : Top} {fv_law_feed fv_law_flow fv_law_draw fv_law_right : Fv} {k : Nat} (M : Mg T) (D_law_feed : Def T "_law_feed" k fv_law_feed) (D_law_flow : Def T "_law_flow" k fv_law_flow) (D_law_draw : Def T "_law_draw" k fv_law_draw) (D_law_right : DefG T "_law_right" k fv_law_right) : BodyG T ["_law_script", "_law_feed_here", "_law_k", "_law_flow_here", "_law_w"] "law" law_st k (law_sv fv_law_feed fv_law_flow fv_law_draw fv_law_right) := by
  refine fun f cdv A outer s H E hr hgd => ?_
  have hu := cx_units hr
  have tk := cx_takes (T := T) (N := ["_law_script", "_law_feed_here", "_law_k", "_law_flow_here", "_law_w"]) (qual := "law") (sc := defScope law_st) (f := f) (cdv := cdv) (A := A) (outer := outer) (s := s) (H := H) (E := E)
  exact (sws_cons (sw_set (i := 1) law_sc.nd (ew_fn D_law_feed tk hr rfl (aw_cons (ew_var (i := 0)) aw_nil))) (sws_cons (sw_for (vs := [2]) cx_passes rfl (iw_range1 rfl M.m_range (aw_cons ew_int aw_nil)) (gw_name law_sc.nd (i := 2)) (sws_cons (sw_set (i := 3) law_sc.nd (ew_fn D_law_flow tk hr rfl (aw_cons (ew_var (i := 1)) aw_nil))) (sws_cons (sw_set (i := 4) law_sc.nd (ew_fn D_law_draw tk hr rfl (aw_cons (ew_var (i := 1)) (aw_cons ew_int aw_nil)))) (sws_one (sw_if (tw_of (pww_or (tw_not (tw_val (ew_fnG D_law_right tk hr hgd rfl (aw_cons (ew_var (i := 3)) (aw_cons (ew_var (i := 4)) aw_nil))))) (pww_or (tw_not (tw_val (ew_fnG D_law_right tk hr hgd rfl (aw_cons (ew_var (i := 3)) (aw_cons ew_int aw_nil))))) (pww_or1 (tw_not (tw_val (ew_fnG D_law_right tk hr hgd rfl (aw_cons (ew_var (i := 3)) (aw_cons (ew_var (i := 4)) aw_nil))))))))) (sws_one (sw_ret ew_bl)) sws_nil))))) (sws_one (sw_ret (ew_and (ew_fnG D_law_right tk hr hgd rfl (aw_cons (ew_tup (aw_cons ew_int aw_nil)) (aw_cons ew_int aw_nil))) (ew_and (ew_fnG D_law_right tk hr hgd rfl (aw_cons (ew_tup (aw_cons ew_int (aw_cons ew_int aw_nil))) (aw_cons ew_int aw_nil))) (ew_and (ew_fnG D_law_right tk hr hgd rfl (aw_cons (ew_tup (aw_cons ew_int (aw_cons ew_int (aw_cons ew_int aw_nil)))) (aw_cons ew_int aw_nil))) (ew_one (ew_fnG D_law_right tk hr hgd rfl (aw_cons (ew_tup (aw_cons ew_int (aw_cons ew_int (aw_cons ew_int aw_nil)))) (aw_cons ew_int aw_nil)))))))))))
end K59
end HW
namespace HW
open PySem L2
open PyProof.Rows hiding St
namespace K59
theorem Impl.of {f f' : Fv} (h : ∀ ws S, f' ws S = .bad ∨ f ws S = f' ws S) : Impl f f' := fun ws S => by
  rcases h ws S with e | e
  · unfold Tells; rw [e]; trivial
  · rw [← e]; exact Impl.refl f ws S
def common_divisor_fv : Fv := fun ws S => match ws with
  | [.int a, .int b] => if 0 ≤ a ∧ 0 ≤ b then .ok (.int (Nat.gcd a.toNat b.toNat)) S else .bad
  | _ => .bad
theorem cd_loop (S : Store) : ∀ (b a : Nat) (l : Option W), ∃ l', sWhile (tVal (eOp gtW (eVar 1) (eC (.int 0)))) (sSeq (sAsg (eOp modW (eVar 0) (eVar 1)) (gName 2)) (sSeq (sAsg (eVar 1) (gName 0)) (sAsg (eVar 2) (gName 1)))) [some (.int a), some (.int b), l] S = .nx [some (.int (Nat.gcd a b)), some (.int 0), l'] S := by
  intro b
  induction b using Nat.strongRecOn with
  | _ b ih =>
    intro a l
    by_cases hb : b = 0
    · subst hb
      refine ⟨l, ?_⟩
      rw [Nat.gcd_zero_right]
      exact sWhile_end (by simp [runBody, sSeq, sAsg, sPar, sIf, sRet, sRetN, sExpr, sSkip, sPut, sRaise, eOp, eUn, eVar, eC, eTup, eLst, eLstS, eFn, eCall, eCut, eIf, eAnd, eOr, eNot, eMt, eFz, tVal, tAnd, tOr, tNot, tYes, aCons, aNil, oNone, oSome, HW.gName, HW.gTup, HW.gList, Res.bind, Res.toS, ltW, leW, gtW, geW, cmpI, addW, subW, mulW, fdivW, modW, powW, absW, intW, lenW, seqT, seqR, seqL, newL, newT, newLS, LIM])
    · obtain ⟨l', h⟩ := ih (a % b) (Nat.mod_lt _ (Nat.pos_of_ne_zero hb)) b (some (.int ((a % b : Nat) : Int)))
      refine ⟨l', ?_⟩
      rw [sWhile_step (S1 := S) (S2 := S) (e2 := [some (.int b), some (.int ((a % b : Nat) : Int)), some (.int ((a % b : Nat) : Int))]) ?_ ?_ (by rw [h]; simp), h, Nat.gcd_comm a b, Nat.gcd_rec b a, Nat.gcd_comm]
      · simp [runBody, sSeq, sAsg, sPar, sIf, sRet, sRetN, sExpr, sSkip, sPut, sRaise, eOp, eUn, eVar, eC, eTup, eLst, eLstS, eFn, eCall, eCut, eIf, eAnd, eOr, eNot, eMt, eFz, tVal, tAnd, tOr, tNot, tYes, aCons, aNil, oNone, oSome, HW.gName, HW.gTup, HW.gList, Res.bind, Res.toS, ltW, leW, gtW, geW, cmpI, addW, subW, mulW, fdivW, modW, powW, absW, intW, lenW, seqT, seqR, seqL, newL, newT, newLS, LIM, Nat.pos_of_ne_zero hb]
      · simp [runBody, sSeq, sAsg, sPar, sIf, sRet, sRetN, sExpr, sSkip, sPut, sRaise, eOp, eUn, eVar, eC, eTup, eLst, eLstS, eFn, eCall, eCut, eIf, eAnd, eOr, eNot, eMt, eFz, tVal, tAnd, tOr, tNot, tYes, aCons, aNil, oNone, oSome, HW.gName, HW.gTup, HW.gList, Res.bind, Res.toS, ltW, leW, gtW, geW, cmpI, addW, subW, mulW, fdivW, modW, powW, absW, intW, lenW, seqT, seqR, seqL, newL, newT, newLS, LIM, Nat.pos_of_ne_zero hb]
theorem common_divisor_im : Impl (runBody 2 3 common_divisor_sv) common_divisor_fv := Impl.of fun ws S => by
  unfold common_divisor_fv
  split
  · rename_i a b
    split
    · rename_i h
      obtain ⟨a, rfl⟩ := Int.eq_ofNat_of_zero_le h.1
      obtain ⟨b, rfl⟩ := Int.eq_ofNat_of_zero_le h.2
      obtain ⟨l', e⟩ := cd_loop S b a none
      right
      simp only [runBody, common_divisor_sv, sSeq] at *
      simp only [List.length_cons, List.length_nil, if_true, List.map_cons, List.map_nil, List.cons_append, List.nil_append, List.replicate]
      simp [e, sRet, eVar, Res.toS]
    · exact .inl rfl
  · exact .inl rfl

/-- size of a divisor -/
def small (b : Int) : Prop := b.natAbs.log2 < 9000
instance (b : Int) : Decidable (small b) := by unfold small; infer_instance
/-- t / b in lowest terms -/
def fracP (t b : Int) : W := .tup [.int (t / (Nat.gcd t.natAbs b.natAbs : Int)), .int (b / (Nat.gcd t.natAbs b.natAbs : Int))]
def fraction_fv : Fv := fun ws S => match ws with
  | [.int t, .int b] => if 0 < b ∧ small b then .ok (fracP t b) S else .bad
  | _ => .bad
theorem gcd_pos {t b : Int} (h : 0 < b) : 0 < Nat.gcd t.natAbs b.natAbs := Nat.gcd_pos_of_pos_right _ (by omega)
theorem gcd_div {t b : Int} (h : 0 < b) (hs : small b) : divOk (Nat.gcd t.natAbs b.natAbs : Int) := by
  refine ⟨by exact_mod_cast gcd_pos h, ?_⟩
  have h1 : Nat.gcd t.natAbs b.natAbs ≤ b.natAbs := Nat.le_of_dvd (by omega) (Nat.gcd_dvd_right _ _)
  have : (Nat.gcd t.natAbs b.natAbs : Int).natAbs = Nat.gcd t.natAbs b.natAbs := Int.natAbs_natCast _
  rw [this]
  exact (Nat.log2_lt (Nat.ne_of_gt (gcd_pos h))).mpr (Nat.lt_of_le_of_lt h1 ((Nat.log2_lt (by omega)).mp hs))
theorem abs_if (t : Int) : (if t < 0 then -t else t) = (t.natAbs : Int) := by split <;> omega
theorem fraction_im : Impl (runBody 2 3 (fraction_sv common_divisor_fv)) fraction_fv := Impl.of fun ws S => by
  unfold fraction_fv
  split
  · rename_i t b
    split
    · rename_i h
      right
      have h0 : ¬ b < 0 := by omega
      have hn : (0 : Int) ≤ b := by omega
      have hd := gcd_div (t := t) h.1 h.2
      have e1 : b.toNat = b.natAbs := by omega
      simp [runBody, sSeq, sAsg, sPar, sIf, sRet, sRetN, sExpr, sSkip, sPut, sRaise, eOp, eUn, eVar, eC, eTup, eLst, eLstS, eFn, eCall, eCut, eIf, eAnd, eOr, eNot, eMt, eFz, tVal, tAnd, tOr, tNot, tYes, aCons, aNil, oNone, oSome, HW.gName, HW.gTup, HW.gList, Res.bind, Res.toS, ltW, leW, gtW, geW, cmpI, addW, subW, mulW, fdivW, modW, powW, absW, intW, lenW, seqT, seqR, seqL, newL, newT, newLS, LIM, fraction_sv, common_divisor_fv, h0, hn, abs_if, e1, hd, fracP]
    · exact .inl rfl
  · exact .inl rfl

/-- p / q in lowest terms, as two numbers -/
abbrev nu (t b : Int) : Int := t / (Nat.gcd t.natAbs b.natAbs : Int)
abbrev de (t b : Int) : Int := b / (Nat.gcd t.natAbs b.natAbs : Int)
theorem gcd_l (t b : Int) : (Nat.gcd t.natAbs b.natAbs : Int) ∣ t := Int.natAbs_dvd_natAbs.mp (by simpa using Nat.gcd_dvd_left t.natAbs b.natAbs)
theorem gcd_r (t b : Int) : (Nat.gcd t.natAbs b.natAbs : Int) ∣ b := Int.natAbs_dvd_natAbs.mp (by simpa using Nat.gcd_dvd_right t.natAbs b.natAbs)
theorem nu_mul (t b : Int) : nu t b * (Nat.gcd t.natAbs b.natAbs : Int) = t := Int.ediv_mul_cancel (gcd_l t b)
theorem de_mul (t b : Int) : de t b * (Nat.gcd t.natAbs b.natAbs : Int) = b := Int.ediv_mul_cancel (gcd_r t b)
theorem nu_de (t b : Int) : nu t b * b = t * de t b := by
  have h1 := nu_mul t b
  have h2 := de_mul t b
  generalize (Nat.gcd t.natAbs b.natAbs : Int) = g at *
  grind
theorem de_pos {t b : Int} (h : 0 < b) : 0 < de t b := by
  have h2 := de_mul t b
  have hg := gcd_pos (t := t) h
  apply Int.not_le.mp
  intro hle
  have : de t b * (Nat.gcd t.natAbs b.natAbs : Int) ≤ 0 := Int.mul_nonpos_of_nonpos_of_nonneg hle (by omega)
  omega
theorem de_le {t b : Int} (h : 0 < b) : de t b ≤ b := Int.ediv_le_self _ (by omega)
theorem coprime {t b : Int} (h : 0 < b) : Nat.gcd (nu t b).natAbs (de t b).natAbs = 1 := by
  have hg := gcd_pos (t := t) h
  have h1 := congrArg Int.natAbs (nu_mul t b)
  have h2 := congrArg Int.natAbs (de_mul t b)
  rw [Int.natAbs_mul, Int.natAbs_natCast] at h1 h2
  have h3 : Nat.gcd ((nu t b).natAbs * Nat.gcd t.natAbs b.natAbs) ((de t b).natAbs * Nat.gcd t.natAbs b.natAbs) = Nat.gcd t.natAbs b.natAbs := by rw [h1, h2]
  rw [Nat.gcd_mul_right] at h3
  exact Nat.eq_of_mul_eq_mul_right hg (by rw [h3, Nat.one_mul])
/-- in lowest terms there is one way -/
theorem low_unique {p q r s : Int} (hq : 0 < q) (hs : 0 < s) (h1 : Nat.gcd p.natAbs q.natAbs = 1) (h2 : Nat.gcd r.natAbs s.natAbs = 1) (h : p * s = r * q) : p = r ∧ q = s := by
  have hn := congrArg Int.natAbs h
  rw [Int.natAbs_mul, Int.natAbs_mul] at hn
  have d1 : q.natAbs ∣ s.natAbs := by
    have : q.natAbs ∣ p.natAbs * s.natAbs := ⟨r.natAbs, by rw [hn, Nat.mul_comm]⟩
    exact (Nat.Coprime.dvd_of_dvd_mul_left (Nat.Coprime.symm h1) this)
  have d2 : s.natAbs ∣ q.natAbs := by
    have : s.natAbs ∣ r.natAbs * q.natAbs := ⟨p.natAbs, by rw [← hn, Nat.mul_comm]⟩
    exact (Nat.Coprime.dvd_of_dvd_mul_left (Nat.Coprime.symm h2) this)
  have e := Nat.dvd_antisymm d1 d2
  have e' : q = s := by omega
  subst e'
  exact ⟨Int.eq_of_mul_eq_mul_right (by omega) h, rfl⟩
theorem fracP_eq (t b : Int) : fracP t b = .tup [.int (nu t b), .int (de t b)] := rfl
theorem fracP_congr {t b t' b' : Int} (h : 0 < b) (h' : 0 < b') (e : t * b' = t' * b) : fracP t b = fracP t' b' := by
  have hx : nu t b * de t' b' = nu t' b' * de t b := by
    have h1 := nu_mul t b
    have h2 := de_mul t b
    have h3 := nu_mul t' b'
    have h4 := de_mul t' b'
    have g1 := gcd_pos (t := t) h
    have g2 := gcd_pos (t := t') h'
    generalize (Nat.gcd t.natAbs b.natAbs) = g at *
    generalize (Nat.gcd t'.natAbs b'.natAbs) = k at *
    generalize nu t b = p at *
    generalize de t b = q at *
    generalize nu t' b' = r at *
    generalize de t' b' = s at *
    have : (p * s - r * q) * ((g : Int) * (k : Int)) = 0 := by subst h1 h2 h3 h4; grind
    have hz : ((g : Int) * (k : Int)) ≠ 0 := by
      have : 0 < g * k := Nat.mul_pos g1 g2
      intro z
      have : ((g * k : Nat) : Int) = 0 := by rw [Int.natCast_mul]; exact z
      omega
    rcases Int.mul_eq_zero.mp this with z | z
    · omega
    · exact absurd z hz
  obtain ⟨e1, e2⟩ := low_unique (de_pos h) (de_pos h') (coprime h) (coprime h') hx
  rw [fracP_eq, fracP_eq, e1, e2]

end K59
end HW
namespace HW
open PySem L2
open PyProof.Rows hiding St
namespace K59
/-! ### the draws -/
def FeedS (c : Int) (S : Store) : Prop := ∃ (cells : List Int) (at_ left : Int), S = [.lst [.lst (cells.map W.int), .int at_, .int left]] ∧ 0 ≤ at_ ∧ at_ ≤ c
theorem log_lt {i : Int} {k : Nat} (h : i.natAbs < 2 ^ k) (hk : 0 < k) : i.natAbs.log2 < k := by
  by_cases hz : i.natAbs = 0
  · rw [hz]; simpa using hk
  · exact (Nat.log2_lt hz).mpr h
theorem mulOk_of {i j : Int} (hi : i.natAbs < 2 ^ 200) (hj : j.natAbs < 2 ^ 200) : mulOk i j := by
  have h1 := log_lt hi (by decide)
  have h2 := log_lt hj (by decide)
  unfold mulOk
  omega
theorem at_int (cells : List Int) (i : Int) (h : 0 < cells.length) : ∃ z : Int, HW.atI (cells.map W.int) (i % (cells.length : Int)) = some (.int z) := by
  have h1 : 0 ≤ i % (cells.length : Int) := Int.emod_nonneg _ (by omega)
  have h2 : i % (cells.length : Int) < cells.length := Int.emod_lt_of_pos _ (by omega)
  have h3 : (i % (cells.length : Int)).toNat < cells.length := by omega
  refine ⟨cells[(i % (cells.length : Int)).toNat], ?_⟩
  unfold HW.atI HW.ixN
  rw [if_pos h1, List.length_map, if_pos h2]
  simp [List.getElem?_eq_getElem h3]
theorem at0 (a b c : W) : HW.atI [a, b, c] 0 = some a := rfl
theorem at1 (a b c : W) : HW.atI [a, b, c] 1 = some b := rfl
theorem at2 (a b c : W) : HW.atI [a, b, c] 2 = some c := rfl
theorem draw_spec {c m : Int} {S : Store} (hS : FeedS c S) (hc : c ≤ 1000) (hm : 0 < m) (hm2 : m ≤ 1000) : ∃ (v : Int) (S' : Store), runBody 2 6 law_draw_sv [.ref 0, .int m] S = .ok (.int v) S' ∧ 0 ≤ v ∧ v < m ∧ FeedS (c + 1) S' := by
  obtain ⟨cells, at_, left, rfl, h0, h1⟩ := hS
  have dm : divOk m := ⟨hm, by have := log_lt (i := m) (k := 10) (by omega) (by decide); omega⟩
  have pm : ∀ z : Int, 0 ≤ z % m ∧ z % m < m := fun z => ⟨Int.emod_nonneg _ (by omega), Int.emod_lt_of_pos _ hm⟩
  by_cases hl : 0 < left
  · refine ⟨left % m, [.lst [.lst (cells.map W.int), .int at_, .int (left / m)]], ?_, (pm _).1, (pm _).2, cells, at_, left / m, rfl, h0, by omega⟩
    simp [runBody, sSeq, sAsg, sPar, sIf, sRet, sRetN, sExpr, sSkip, sPut, sRaise, eOp, eUn, eVar, eC, eTup, eLst, eLstS, eFn, eCall, eCut, eIf, eAnd, eOr, eNot, eMt, eFz, tVal, tAnd, tOr, tNot, tYes, aCons, aNil, oNone, oSome, HW.gName, HW.gTup, HW.gList, Res.bind, Res.toS, ltW, leW, gtW, geW, cmpI, addW, subW, mulW, fdivW, modW, powW, absW, intW, lenW, seqT, seqR, seqL, newL, newT, newLS, LIM, law_draw_sv, ixW, HW.atI, HW.ixN, putL, hl, hm, dm]
  · have go : ∀ cell : Int, (if 0 < cells.length then HW.atI (cells.map W.int) (at_ % (cells.length : Int)) = some (.int cell) else cell = 0) → ∃ (v : Int) (S' : Store), runBody 2 6 law_draw_sv [.ref 0, .int m] [.lst [.lst (cells.map W.int), .int at_, .int left]] = .ok (.int v) S' ∧ 0 ≤ v ∧ v < m ∧ FeedS (c + 1) S' := by
      intro cell hcell
      have hat : at_ ≤ 1000 := Int.le_trans h1 hc
      have hsq : at_ * at_ ≤ 1000 * 1000 := Int.mul_le_mul hat hat h0 (by decide)
      have hsq0 : 0 ≤ at_ * at_ := Int.mul_nonneg h0 h0
      have hsq2 : 47 * at_ * at_ = 47 * (at_ * at_) := by rw [Int.mul_assoc]
      have p1 : powOk 10 18 := by decide
      have m1 : mulOk 47 at_ := mulOk_of (by decide) (by omega)
      have m2 : mulOk (47 * at_) at_ := mulOk_of (by omega) (by omega)
      have m3 : mulOk 31 at_ := mulOk_of (by decide) (by omega)
      have m6 : mulOk 38317 at_ := mulOk_of (by decide) (by omega)
      have c1 : 0 ≤ cell % 1000003 ∧ cell % 1000003 < 1000003 := ⟨Int.emod_nonneg _ (by decide), Int.emod_lt_of_pos _ (by decide)⟩
      have m4 : mulOk (cell % 1000003 + 47 * at_ * at_ + 31 * at_ + 907) 40009 := mulOk_of (by rw [hsq2]; omega) (by decide)
      generalize hf : (cell % 1000003 + 47 * at_ * at_ + 31 * at_ + 907) * 40009 % 999961 = first at *
      have c2 : 0 ≤ first ∧ first < 999961 := by rw [← hf]; exact ⟨Int.emod_nonneg _ (by decide), Int.emod_lt_of_pos _ (by decide)⟩
      have m5 : mulOk first first := mulOk_of (by omega) (by omega)
      generalize hg : (first * first + 38317 * at_ + 101) % 2097143 = second at *
      have c3 : 0 ≤ second ∧ second < 2097143 := by rw [← hg]; exact ⟨Int.emod_nonneg _ (by decide), Int.emod_lt_of_pos _ (by decide)⟩
      have m7 : mulOk second 48271 := mulOk_of (by omega) (by decide)
      have d7 : divOk 7 := by decide
      by_cases hbig : 10 ^ 18 ≤ cell ∧ at_ < (cells.length : Int)
      · refine ⟨cell % m, [.lst [.lst (cells.map W.int), .int (at_ + 1), .int (cell / m)]], ?_, (pm _).1, (pm _).2, cells, at_ + 1, cell / m, rfl, by omega, by omega⟩
        obtain ⟨b1, b2⟩ := hbig
        have hn : 0 < cells.length := by omega
        rw [if_pos hn] at hcell
        have hl' : ¬ left > 0 := hl
        simp only [runBody, sSeq, sAsg, sPar, sIf, sRet, sRetN, sExpr, sSkip, sPut, sRaise, eOp, eUn, eVar, eC, eTup, eLst, eLstS, eFn, eCall, eCut, eIf, eAnd, eOr, eNot, eMt, eFz, tVal, tAnd, tOr, tNot, tYes, aCons, aNil, oNone, oSome, HW.gName, HW.gTup, HW.gList, Res.bind, Res.toS, ltW, leW, gtW, geW, cmpI, addW, subW, mulW, fdivW, modW, powW, absW, intW, lenW, seqT, seqR, seqL, newL, newT, newLS, LIM, law_draw_sv, ixW, putL, HW.ixN, at0, at1, at2]
        have b1' : (1000000000000000000 : Int) ≤ cell := by simpa using b1
        simp [hl, hm, dm, p1, hn, b1', b2, hcell, at0, at1, at2]
      · refine ⟨second * 48271 % 2147483629 / 7 % m, [.lst [.lst (cells.map W.int), .int (at_ + 1), .int left]], ?_, (pm _).1, (pm _).2, cells, at_ + 1, left, rfl, by omega, by omega⟩
        have hl' : ¬ left > 0 := hl
        have hbig' : ¬ ((1000000000000000000 : Int) ≤ cell ∧ at_ < (cells.length : Int)) := fun z => hbig ⟨by simpa using z.1, z.2⟩
        by_cases hn : 0 < cells.length
        · rw [if_pos hn] at hcell
          by_cases b1 : (1000000000000000000 : Int) ≤ cell
          · have b2 : ¬ at_ < (cells.length : Int) := fun z => hbig' ⟨b1, z⟩
            simp only [runBody, sSeq, sAsg, sPar, sIf, sRet, sRetN, sExpr, sSkip, sPut, sRaise, eOp, eUn, eVar, eC, eTup, eLst, eLstS, eFn, eCall, eCut, eIf, eAnd, eOr, eNot, eMt, eFz, tVal, tAnd, tOr, tNot, tYes, aCons, aNil, oNone, oSome, HW.gName, HW.gTup, HW.gList, Res.bind, Res.toS, ltW, leW, gtW, geW, cmpI, addW, subW, mulW, fdivW, modW, powW, absW, intW, lenW, seqT, seqR, seqL, newL, newT, newLS, LIM, law_draw_sv, ixW, putL, HW.ixN, at0, at1, at2]
            simp [hl, hm, dm, p1, hn, b1, b2, hcell, at0, at1, at2, m1, m2, m3, m4, m5, m6, m7, d7, hf, hg]
          · simp only [runBody, sSeq, sAsg, sPar, sIf, sRet, sRetN, sExpr, sSkip, sPut, sRaise, eOp, eUn, eVar, eC, eTup, eLst, eLstS, eFn, eCall, eCut, eIf, eAnd, eOr, eNot, eMt, eFz, tVal, tAnd, tOr, tNot, tYes, aCons, aNil, oNone, oSome, HW.gName, HW.gTup, HW.gList, Res.bind, Res.toS, ltW, leW, gtW, geW, cmpI, addW, subW, mulW, fdivW, modW, powW, absW, intW, lenW, seqT, seqR, seqL, newL, newT, newLS, LIM, law_draw_sv, ixW, putL, HW.ixN, at0, at1, at2]
            simp [hl, hm, dm, p1, hn, b1, hcell, at0, at1, at2, m1, m2, m3, m4, m5, m6, m7, d7, hf, hg]
        · rw [if_neg hn] at hcell
          subst hcell
          have hz : cells = [] := List.eq_nil_of_length_eq_zero (by omega)
          subst hz
          simp only [Int.zero_emod, Int.zero_add] at m4 hf
          simp only [runBody, sSeq, sAsg, sPar, sIf, sRet, sRetN, sExpr, sSkip, sPut, sRaise, eOp, eUn, eVar, eC, eTup, eLst, eLstS, eFn, eCall, eCut, eIf, eAnd, eOr, eNot, eMt, eFz, tVal, tAnd, tOr, tNot, tYes, aCons, aNil, oNone, oSome, HW.gName, HW.gTup, HW.gList, Res.bind, Res.toS, ltW, leW, gtW, geW, cmpI, addW, subW, mulW, fdivW, modW, powW, absW, intW, lenW, seqT, seqR, seqL, newL, newT, newLS, LIM, law_draw_sv, ixW, putL, HW.ixN, at0, at1, at2]
          simp [hl, hm, dm, p1, at0, at1, at2, m1, m2, m3, m4, m5, m6, m7, d7, hf, hg]
    by_cases hn : 0 < cells.length
    · obtain ⟨z, hz⟩ := at_int cells at_ hn
      exact go z (by rw [if_pos hn]; exact hz)
    · exact go 0 (by rw [if_neg hn])

noncomputable abbrev drawF : Fv := runBody 2 6 law_draw_sv
theorem comp_draw (m : Int) (hm : 0 < m) (hm2 : m ≤ 1000) (env : Env) (henv : env[0]? = some (some (.ref 0))) : ∀ (ws : List W) (c : Int) (S : Store), FeedS c S → c + ws.length ≤ 1000 →
    ∃ (vs : List Int) (S' : Store), compL none (gName 5) tYes (eFn drawF (aCons (eVar 0) (aCons (eC (.int m)) aNil))) env ws S = .ok (vs.map W.int) S' ∧ vs.length = ws.length ∧ (∀ v ∈ vs, 0 ≤ v ∧ v < m) ∧ FeedS (c + ws.length) S' := by
  intro ws
  induction ws with
  | nil =>
    intro c S hS hc
    refine ⟨[], S, ?_, rfl, (fun v h => by cases h), by simpa using hS⟩
    unfold compL
    rw [if_pos (show gdOk none S from trivial)]; rfl
  | cons w ws ih =>
    intro c S hS hc
    simp only [List.length_cons, Int.natCast_add, Int.natCast_one] at hc
    obtain ⟨v, S1, e1, h1, h2, hS1⟩ := draw_spec hS (by omega) hm hm2
    obtain ⟨vs, S2, e2, h3, h4, hS2⟩ := ih (c + 1) S1 hS1 (by omega)
    refine ⟨v :: vs, S2, ?_, by rw [List.length_cons, List.length_cons, h3], fun u hu => ?_, ?_⟩
    · unfold compL
      rw [if_pos (show gdOk none S from trivial)]
      have e0 : (env.set 5 (some w))[0]? = some (some (.ref 0)) := by rw [List.getElem?_set_ne (by decide)]; exact henv
      simp only [HW.gName, tYes, Res.calm, Res.bind_ok, if_true, eFn, aCons, eVar, eC, aNil, e0, e1, e2, List.map_cons]
    · rcases List.mem_cons.mp hu with z | z
      · subst z; exact ⟨h1, h2⟩
      · exact h4 u z
    · have : c + ((w :: ws).length : Int) = c + 1 + (ws.length : Int) := by simp; omega
      rw [this]; exact hS2
/-- the lots of a flow -/
structure Dom (ls : List Int) : Prop where
  len : ls.length ≤ 20
  ge : ∀ l ∈ ls, 0 ≤ l ∧ l ≤ 100
  pos : 0 < ls.sum
theorem sum_app (a b : List Int) : (a ++ b).sum = a.sum + b.sum := by induction a with
  | nil => simp
  | cons x a ih => simp only [List.cons_append, List.sum_cons, ih]; omega
theorem sum_nn : ∀ (a : List Int), (∀ l ∈ a, 0 ≤ l ∧ l ≤ 100) → 0 ≤ a.sum
  | [], _ => by simp
  | x :: a, h => by
    have h1 := h x List.mem_cons_self
    have h2 := sum_nn a fun l hl => h l (List.mem_cons_of_mem _ hl)
    simp only [List.sum_cons]; omega
theorem Dom.snoc {vs : List Int} {z : Int} (hl : vs.length ≤ 19) (h : ∀ v ∈ vs, 0 ≤ v ∧ v ≤ 100) (h1 : 0 < z) (h2 : z ≤ 100) : Dom (vs ++ [z]) where
  len := by simp; omega
  ge := fun l hl' => by
    rcases List.mem_append.mp hl' with q | q
    · exact h l q
    · have : l = z := by simpa using q
      omega
  pos := by
    rw [sum_app]
    have := sum_nn vs h
    simp; omega
theorem flow_spec {c : Int} {S : Store} (hS : FeedS c S) (hc : c ≤ 900) : ∃ (ls : List Int) (S' : Store), runBody 1 6 (law_flow_sv drawF) [.ref 0] S = .ok (.tup (ls.map W.int)) S' ∧ Dom ls ∧ FeedS (c + 24) S' := by
  obtain ⟨w1, S1, e1, a1, b1, hS1⟩ := draw_spec (m := 5) hS (by omega) (by decide) (by decide)
  obtain ⟨w2, S2, e2, a2, b2, hS2⟩ := draw_spec (m := 9) hS1 (by omega) (by decide) (by decide)
  have up : ∀ {d e : Int} {S : Store}, FeedS d S → d ≤ e → FeedS e S := fun {d e S} ⟨cs, a, l, h1, h2, h3⟩ h => ⟨cs, a, l, h1, h2, by omega⟩
  have ok1 : ∀ (x : Int) (S : Store), eqW (.int x) (.int 0) S = .ok (.bl (x == 0)) S := fun x S => by simp [eqW, deref, W.okD, W.eqv, DEEP]
  have ok2 : ∀ (x : Int) (S : Store), eqW (.int x) (.int 1) S = .ok (.bl (x == 1)) S := fun x S => by simp [eqW, deref, W.okD, W.eqv, DEEP]
  have ok3 : ∀ (x : Int) (S : Store), eqW (.int x) (.int 3) S = .ok (.bl (x == 3)) S := fun x S => by simp [eqW, deref, W.okD, W.eqv, DEEP]
  by_cases h0 : w1 = 0
  · obtain ⟨v, S3, e3, a3, b3, hS3⟩ := draw_spec (m := 12) hS2 (by omega) (by decide) (by decide)
    obtain ⟨u, S4, e4, a4, b4, hS4⟩ := draw_spec (m := 13) hS3 (by omega) (by decide) (by decide)
    refine ⟨[1 + v, u, 1 + v], S4, ?_, ⟨by simp, fun l hl => ?_, by simp; omega⟩, up hS4 (by omega)⟩
    · simp [runBody, sSeq, sAsg, sPar, sIf, sRet, sRetN, sExpr, sSkip, sPut, sRaise, eOp, eUn, eVar, eC, eTup, eLst, eLstS, eFn, eCall, eCut, eIf, eAnd, eOr, eNot, eMt, eFz, tVal, tAnd, tOr, tNot, tYes, aCons, aNil, oNone, oSome, HW.gName, HW.gTup, HW.gList, Res.bind, Res.toS, ltW, leW, gtW, geW, cmpI, addW, subW, mulW, fdivW, modW, powW, absW, intW, lenW, seqT, seqR, seqL, newL, newT, newLS, LIM, law_flow_sv, e1, e2, ok1, h0, e3, e4]
    · simp at hl; omega
  by_cases h1 : w1 = 1
  · obtain ⟨v, S3, e3, a3, b3, hS3⟩ := draw_spec (m := 12) hS2 (by omega) (by decide) (by decide)
    refine ⟨[0, 1 + v], S3, ?_, ⟨by simp, fun l hl => ?_, by simp; omega⟩, up hS3 (by omega)⟩
    · simp [runBody, sSeq, sAsg, sPar, sIf, sRet, sRetN, sExpr, sSkip, sPut, sRaise, eOp, eUn, eVar, eC, eTup, eLst, eLstS, eFn, eCall, eCut, eIf, eAnd, eOr, eNot, eMt, eFz, tVal, tAnd, tOr, tNot, tYes, aCons, aNil, oNone, oSome, HW.gName, HW.gTup, HW.gList, Res.bind, Res.toS, ltW, leW, gtW, geW, cmpI, addW, subW, mulW, fdivW, modW, powW, absW, intW, lenW, seqT, seqR, seqL, newL, newT, newLS, LIM, law_flow_sv, e1, e2, ok1, ok2, h0, h1, e3]
    · simp at hl; omega
  have hr2 : ∀ n : Int, (rangeL 0 n).length = n.toNat := fun n => by rw [rangeL_length]; simp
  have rOk : ∀ n : Int, 0 ≤ n + 1 → n < 100 → (-4611686018427387904 : Int) ≤ n ∧ n < 4611686018427387904 := fun n h1 h2 => by omega
  have envW : ∀ (x : Option W), ([some (.ref 0), some (.int w1), some (.int w2), none, x, none] : Env)[0]? = some (some (.ref 0)) := fun _ => rfl
  obtain ⟨vs, S3, e3, n3, a3, hS3⟩ := comp_draw 13 (by decide) (by decide) (wipeE [some (.ref 0), some (.int w1), some (.int w2), none, none, none] [5]) rfl (rangeL 0 w2) _ S2 hS2 (by rw [hr2]; omega)
  rw [hr2] at n3 hS3
  have r1 := rOk w2 (by omega) (by omega)
  by_cases h4 : w1 < 4
  · obtain ⟨us, S4, e4, n4, a4, hS4⟩ := comp_draw 2 (by decide) (by decide) (wipeE [some (.ref 0), some (.int w1), some (.int w2), none, some (.lst (vs.map W.int)), none] [5]) rfl (rangeL 0 (w2 - 1)) _ S3 hS3 (by rw [hr2]; omega)
    rw [hr2] at n4 hS4
    have r2 := rOk (w2 - 1) (by omega) (by omega)
    have fin : ∀ m : Int, 0 < m → m ≤ 12 → (W.int m = if w1 = 3 then .int 2 else .int 12) → ∃ (ls : List Int) (S' : Store), runBody 1 6 (law_flow_sv drawF) [.ref 0] S = .ok (.tup (ls.map W.int)) S' ∧ Dom ls ∧ FeedS (c + 24) S' := fun m m1 m2 m3 => by
      obtain ⟨z, S5, e5, a5, b5, hS5⟩ := draw_spec (m := m) hS4 (by omega) m1 (by omega)
      refine ⟨(12 :: us) ++ [1 + z], S5, ?_, Dom.snoc (by rw [List.length_cons, n4]; omega) (fun v hv => ?_) (by omega) (by omega), up hS5 (by omega)⟩
      · have l1 : vs.length ≤ 16000000 := by omega
        have l2 : us.length + 1 ≤ 16000000 := by omega
        have l3 : us.length ≤ 16000000 := by omega
        have l4 : 1 + us.length ≤ 16000000 := by omega
        have l5 : us.length + 1 + 1 ≤ 16000000 := by omega
        by_cases h3 : w1 = 3
        · rw [if_pos h3] at m3
          cases m3
          subst h3
          simp [runBody, sSeq, sAsg, sPar, sIf, sRet, sRetN, sExpr, sSkip, sPut, sRaise, eOp, eUn, eVar, eC, eTup, eLst, eLstS, eFn, eCall, eCut, eIf, eAnd, eOr, eNot, eMt, eFz, tVal, tAnd, tOr, tNot, tYes, aCons, aNil, oNone, oSome, HW.gName, HW.gTup, HW.gList, Res.bind, Res.toS, ltW, leW, gtW, geW, cmpI, addW, subW, mulW, fdivW, modW, powW, absW, intW, lenW, seqT, seqR, seqL, newL, newT, newLS, LIM, law_flow_sv, eComp, iRange1, e1, e2, ok1, ok2, ok3, r1, r2, e3, e4, e5, l1, l2, l3, l4, l5, tupleW, ixW, HW.atI, HW.ixN]
        · rw [if_neg h3] at m3
          cases m3
          simp [runBody, sSeq, sAsg, sPar, sIf, sRet, sRetN, sExpr, sSkip, sPut, sRaise, eOp, eUn, eVar, eC, eTup, eLst, eLstS, eFn, eCall, eCut, eIf, eAnd, eOr, eNot, eMt, eFz, tVal, tAnd, tOr, tNot, tYes, aCons, aNil, oNone, oSome, HW.gName, HW.gTup, HW.gList, Res.bind, Res.toS, ltW, leW, gtW, geW, cmpI, addW, subW, mulW, fdivW, modW, powW, absW, intW, lenW, seqT, seqR, seqL, newL, newT, newLS, LIM, law_flow_sv, eComp, iRange1, e1, e2, ok1, ok2, ok3, h0, h1, h4, h3, r1, r2, e3, e4, e5, l1, l2, l3, l4, l5, tupleW, ixW, HW.atI, HW.ixN]
      · rcases List.mem_cons.mp hv with q | q
        · omega
        · have := a4 v q; omega
    by_cases h3 : w1 = 3
    · exact fin 2 (by decide) (by decide) (by rw [if_pos h3])
    · exact fin 12 (by decide) (by decide) (by rw [if_neg h3])
  · have h3 : ¬ w1 = 3 := by omega
    obtain ⟨z, S5, e5, a5, b5, hS5⟩ := draw_spec (m := 12) hS3 (by omega) (by decide) (by decide)
    refine ⟨vs ++ [1 + z], S5, ?_, Dom.snoc (by rw [n3]; omega) (fun v hv => by have := a3 v hv; omega) (by omega) (by omega), up hS5 (by omega)⟩
    have l1 : vs.length ≤ 16000000 := by omega
    have l2 : vs.length + 1 ≤ 16000000 := by omega
    simp [runBody, sSeq, sAsg, sPar, sIf, sRet, sRetN, sExpr, sSkip, sPut, sRaise, eOp, eUn, eVar, eC, eTup, eLst, eLstS, eFn, eCall, eCut, eIf, eAnd, eOr, eNot, eMt, eFz, tVal, tAnd, tOr, tNot, tYes, aCons, aNil, oNone, oSome, HW.gName, HW.gTup, HW.gList, Res.bind, Res.toS, ltW, leW, gtW, geW, cmpI, addW, subW, mulW, fdivW, modW, powW, absW, intW, lenW, seqT, seqR, seqL, newL, newT, newLS, LIM, law_flow_sv, eComp, iRange1, e1, e2, ok1, ok2, ok3, h0, h1, h4, h3, r1, e3, e5, l1, l2, tupleW, ixW, HW.atI, HW.ixN]

end K59
end HW
namespace HW
open PySem L2
open PyProof.Rows hiding St
namespace K59
/-! ### the program's fractions -/
def bd (i : Int) : Prop := i.natAbs < 2 ^ 60
instance (i : Int) : Decidable (bd i) := by unfold bd; infer_instance
theorem bd_mulOk {i j : Int} (h1 : bd i) (h2 : bd j) : mulOk i j := mulOk_of (Nat.lt_trans h1 (by decide)) (Nat.lt_trans h2 (by decide))
theorem bd_mul {i j : Int} (h1 : bd i) (h2 : bd j) : (i * j).natAbs < 2 ^ 120 := by
  rw [Int.natAbs_mul]
  have : (2 : Nat) ^ 120 = 2 ^ 60 * 2 ^ 60 := by decide
  rw [this]
  exact Nat.mul_lt_mul'' h1 h2
theorem small_mul {i j : Int} (h1 : bd i) (h2 : bd j) : small (i * j) := by
  have := log_lt (bd_mul h1 h2) (by decide)
  unfold small
  omega
theorem c2_0 (a b : W) : HW.atI [a, b] 0 = some a := rfl
theorem c2_1 (a b : W) : HW.atI [a, b] 1 = some b := rfl
def minus_fv : Fv := fun ws S => match ws with
  | [.tup [.int p, .int q], .tup [.int r, .int s]] => if bd p ∧ bd q ∧ bd r ∧ bd s ∧ 0 < q ∧ 0 < s then .ok (fracP (p * s - r * q) (q * s)) S else .bad
  | _ => .bad
def times_fv : Fv := fun ws S => match ws with
  | [.tup [.int p, .int q], .tup [.int r, .int s]] => if bd p ∧ bd q ∧ bd r ∧ bd s ∧ 0 < q ∧ 0 < s then .ok (fracP (p * r) (q * s)) S else .bad
  | _ => .bad
def over_fv : Fv := fun ws S => match ws with
  | [.tup [.int p, .int q], .tup [.int r, .int s]] => if bd p ∧ bd q ∧ bd r ∧ bd s ∧ 0 < q ∧ 0 < r then .ok (fracP (p * s) (q * r)) S else .bad
  | _ => .bad
def less_fv : Fv := fun ws S => match ws with
  | [.tup [.int p, .int q], .tup [.int r, .int s]] => if bd p ∧ bd q ∧ bd r ∧ bd s then .ok (.bl (decide (p * s < r * q))) S else .bad
  | _ => .bad
theorem minus_im : Impl (runBody 2 2 (minus_sv fraction_fv)) minus_fv := Impl.of fun ws S => by
  unfold minus_fv
  split
  · rename_i p q r s
    split
    · rename_i h
      obtain ⟨h1, h2, h3, h4, h5, h6⟩ := h
      right
      have m1 := bd_mulOk h1 h4
      have m2 := bd_mulOk h3 h2
      have m3 := bd_mulOk h2 h4
      have p1 := Int.mul_pos h5 h6
      have s1 := small_mul h2 h4
      simp [runBody, sSeq, sAsg, sPar, sIf, sRet, sRetN, sExpr, sSkip, sPut, sRaise, eOp, eUn, eVar, eC, eTup, eLst, eLstS, eFn, eCall, eCut, eIf, eAnd, eOr, eNot, eMt, eFz, tVal, tAnd, tOr, tNot, tYes, aCons, aNil, oNone, oSome, HW.gName, HW.gTup, HW.gList, Res.bind, Res.toS, ltW, leW, gtW, geW, cmpI, addW, subW, mulW, fdivW, modW, powW, absW, intW, lenW, seqT, seqR, seqL, newL, newT, newLS, LIM, minus_sv, fraction_fv, ixW, c2_0, c2_1, m1, m2, m3, p1, s1]
    · exact .inl rfl
  · exact .inl rfl
theorem times_im : Impl (runBody 2 2 (times_sv fraction_fv)) times_fv := Impl.of fun ws S => by
  unfold times_fv
  split
  · rename_i p q r s
    split
    · rename_i h
      obtain ⟨h1, h2, h3, h4, h5, h6⟩ := h
      right
      have m1 := bd_mulOk h1 h3
      have m3 := bd_mulOk h2 h4
      have p1 := Int.mul_pos h5 h6
      have s1 := small_mul h2 h4
      simp [runBody, sSeq, sAsg, sPar, sIf, sRet, sRetN, sExpr, sSkip, sPut, sRaise, eOp, eUn, eVar, eC, eTup, eLst, eLstS, eFn, eCall, eCut, eIf, eAnd, eOr, eNot, eMt, eFz, tVal, tAnd, tOr, tNot, tYes, aCons, aNil, oNone, oSome, HW.gName, HW.gTup, HW.gList, Res.bind, Res.toS, ltW, leW, gtW, geW, cmpI, addW, subW, mulW, fdivW, modW, powW, absW, intW, lenW, seqT, seqR, seqL, newL, newT, newLS, LIM, times_sv, fraction_fv, ixW, c2_0, c2_1, m1, m3, p1, s1]
    · exact .inl rfl
  · exact .inl rfl
theorem over_im : Impl (runBody 2 2 (over_sv fraction_fv)) over_fv := Impl.of fun ws S => by
  unfold over_fv
  split
  · rename_i p q r s
    split
    · rename_i h
      obtain ⟨h1, h2, h3, h4, h5, h6⟩ := h
      right
      have m1 := bd_mulOk h1 h4
      have m3 := bd_mulOk h2 h3
      have p1 := Int.mul_pos h5 h6
      have s1 := small_mul h2 h3
      simp [runBody, sSeq, sAsg, sPar, sIf, sRet, sRetN, sExpr, sSkip, sPut, sRaise, eOp, eUn, eVar, eC, eTup, eLst, eLstS, eFn, eCall, eCut, eIf, eAnd, eOr, eNot, eMt, eFz, tVal, tAnd, tOr, tNot, tYes, aCons, aNil, oNone, oSome, HW.gName, HW.gTup, HW.gList, Res.bind, Res.toS, ltW, leW, gtW, geW, cmpI, addW, subW, mulW, fdivW, modW, powW, absW, intW, lenW, seqT, seqR, seqL, newL, newT, newLS, LIM, over_sv, fraction_fv, ixW, c2_0, c2_1, m1, m3, p1, s1]
    · exact .inl rfl
  · exact .inl rfl
theorem less_im : Impl (runBody 2 2 less_sv) less_fv := Impl.of fun ws S => by
  unfold less_fv
  split
  · rename_i p q r s
    split
    · rename_i h
      obtain ⟨h1, h2, h3, h4⟩ := h
      right
      have m1 := bd_mulOk h1 h4
      have m3 := bd_mulOk h3 h2
      simp [runBody, sSeq, sAsg, sPar, sIf, sRet, sRetN, sExpr, sSkip, sPut, sRaise, eOp, eUn, eVar, eC, eTup, eLst, eLstS, eFn, eCall, eCut, eIf, eAnd, eOr, eNot, eMt, eFz, tVal, tAnd, tOr, tNot, tYes, aCons, aNil, oNone, oSome, HW.gName, HW.gTup, HW.gList, Res.bind, Res.toS, ltW, leW, gtW, geW, cmpI, addW, subW, mulW, fdivW, modW, powW, absW, intW, lenW, seqT, seqR, seqL, newL, newT, newLS, LIM, less_sv, ixW, c2_0, c2_1, m1, m3]
    · exact .inl rfl
  · exact .inl rfl
/-! comprehensions over a walk that stays -/
theorem compL_map {tg : Gv} {elt : Ev} {env : Env} {S : Store} {f : W → W} : ∀ (ws : List W), (∀ w ∈ ws, ∃ e1, tg w env = some e1 ∧ elt e1 S = .ok (f w) S) → compL none tg tYes elt env ws S = .ok (ws.map f) S
  | [], _ => by unfold compL; rw [if_pos (show gdOk none S from trivial)]; rfl
  | w :: ws, h => by
    obtain ⟨e1, h1, h2⟩ := h w List.mem_cons_self
    have ih := compL_map ws fun w hw => h w (List.mem_cons_of_mem _ hw)
    unfold compL
    rw [if_pos (show gdOk none S from trivial)]
    simp only [h1, tYes, Res.calm, Res.bind_ok, if_true, h2, ih, List.map_cons]
/-- pairs of whole numbers -/
abbrev pw (P : List (Int × Int)) : List W := P.map fun p => .tup [.int p.1, .int p.2]
theorem pw_map {P : List (Int × Int)} {f : W → W} {k : Int × Int → Int} (h : ∀ p ∈ P, f (.tup [.int p.1, .int p.2]) = .int (k p)) : (pw P).map f = (P.map k).map W.int := by
  rw [List.map_map, List.map_map]
  exact List.map_congr_left h
theorem intsOf_map : ∀ ns : List Int, intsOf (ns.map W.int) = some ns
  | [] => rfl
  | n :: ns => by show (intsOf (ns.map W.int)).map (n :: ·) = _; rw [intsOf_map ns]; rfl
/-- what mean_of is handed -/
structure OkP (P : List (Int × Int)) : Prop where
  len : P.length ≤ 1000
  bd1 : ∀ p ∈ P, bd p.1 ∧ bd p.2
  pos : 0 < (P.map (·.2)).sum
  sm : small (P.map (·.2)).sum
open Classical in
noncomputable def mean_of_fv : Fv := fun ws S => if h : ∃ P, ws = [.lst (pw P)] ∧ OkP P then .ok (fracP (h.choose.map fun p => p.1 * p.2).sum (h.choose.map (·.2)).sum) S else .bad
theorem pw_inj : ∀ {P Q : List (Int × Int)}, pw P = pw Q → P = Q
  | [], [], _ => rfl
  | [], _ :: _, h => by cases h
  | _ :: _, [], h => by cases h
  | (a, b) :: P, (c, d) :: Q, h => by
    simp only [pw, List.map_cons, List.cons.injEq, W.tup.injEq, W.int.injEq, and_true] at h
    obtain ⟨⟨rfl, rfl⟩, h2⟩ := h
    rw [pw_inj h2]
theorem mean_of_eq {P : List (Int × Int)} {S : Store} (h : OkP P) : mean_of_fv [.lst (pw P)] S = .ok (fracP (P.map fun p => p.1 * p.2).sum (P.map (·.2)).sum) S := by
  have hx : ∃ Q, [W.lst (pw P)] = [.lst (pw Q)] ∧ OkP Q := ⟨P, rfl, h⟩
  have e : hx.choose = P := by
    have h1 := hx.choose_spec.1
    injection h1 with h2
    injection h2 with h3
    exact (pw_inj h3).symm
  unfold mean_of_fv
  rw [dif_pos hx, e]
theorem mean_of_im : Impl (runBody 1 3 (mean_of_sv fraction_fv)) mean_of_fv := Impl.of fun ws S => by
  by_cases hx : ∃ P, ws = [.lst (pw P)] ∧ OkP P
  · obtain ⟨P, rfl, h⟩ := hx
    right
    rw [mean_of_eq h]
    have k1 : ∀ env : Env, env.length = 3 → compL none (gTup [gName 1, gName 2]) tYes (eOp mulW (eVar 1) (eVar 2)) env (pw P) S = .ok ((P.map fun p => p.1 * p.2).map W.int) S := fun env he => by
      rw [compL_map (f := fun w => match w with | .tup [.int a, .int b] => .int (a * b) | w => w) (pw P) fun w hw => ?_, pw_map (k := fun p => p.1 * p.2) fun p _ => rfl]
      obtain ⟨p, hp, rfl⟩ := List.mem_map.mp hw
      obtain ⟨b1, b2⟩ := h.bd1 p hp
      match env, he with
      | [a, b, c], _ => exact ⟨_, rfl, by simp [runBody, sSeq, sAsg, sPar, sIf, sRet, sRetN, sExpr, sSkip, sPut, sRaise, eOp, eUn, eVar, eC, eTup, eLst, eLstS, eFn, eCall, eCut, eIf, eAnd, eOr, eNot, eMt, eFz, tVal, tAnd, tOr, tNot, tYes, aCons, aNil, oNone, oSome, HW.gName, HW.gTup, HW.gList, Res.bind, Res.toS, ltW, leW, gtW, geW, cmpI, addW, subW, mulW, fdivW, modW, powW, absW, intW, lenW, seqT, seqR, seqL, newL, newT, newLS, LIM, bd_mulOk b1 b2]⟩
    have k2 : ∀ env : Env, env.length = 3 → compL none (gTup [gName 1, gName 2]) tYes (eVar 2) env (pw P) S = .ok ((P.map (·.2)).map W.int) S := fun env he => by
      rw [compL_map (f := fun w => match w with | .tup [.int a, .int b] => .int b | w => w) (pw P) fun w hw => ?_, pw_map (k := (·.2)) fun p _ => rfl]
      obtain ⟨p, hp, rfl⟩ := List.mem_map.mp hw
      match env, he with
      | [a, b, c], _ => exact ⟨_, rfl, by simp [runBody, sSeq, sAsg, sPar, sIf, sRet, sRetN, sExpr, sSkip, sPut, sRaise, eOp, eUn, eVar, eC, eTup, eLst, eLstS, eFn, eCall, eCut, eIf, eAnd, eOr, eNot, eMt, eFz, tVal, tAnd, tOr, tNot, tYes, aCons, aNil, oNone, oSome, HW.gName, HW.gTup, HW.gList, Res.bind, Res.toS, ltW, leW, gtW, geW, cmpI, addW, subW, mulW, fdivW, modW, powW, absW, intW, lenW, seqT, seqR, seqL, newL, newT, newLS, LIM]⟩
    have l1 : P.length ≤ 16000000 := by have := h.len; omega
    have k1' := k1 (wipeE [some (.lst (pw P)), none, none] [1, 2]) rfl
    have k2' := k2 (wipeE [some (.lst (pw P)), none, none] [1, 2]) rfl
    have i1 := intsOf_map (P.map fun p => p.1 * p.2)
    have i2 := intsOf_map (P.map (·.2))
    simp only [runBody, mean_of_sv, sRet, eFn, aCons, aNil, eCall, eComp, iSeq, eVar, Res.bind, Res.toS, List.length_cons, List.length_nil, List.map_cons, List.map_nil, List.cons_append, List.nil_append, List.replicate, if_true, List.getElem?_cons_zero, seqT, seqR, seqL, guardOf, k1', k2', newL, List.length_map, LIM, l1, sumW, onInts, i1, i2, fraction_fv, h.pos, h.sm, and_self]
  · left
    unfold mean_of_fv
    rw [dif_neg hx]

/-! ### means -/
/-- sum of k * lot, of k * k * lot from the k-th on -/
def wsum : Int → List Int → Int
  | _, [] => 0
  | k, l :: ls => k * l + wsum (k + 1) ls
def qsum : Int → List Int → Int
  | _, [] => 0
  | k, l :: ls => k * k * l + qsum (k + 1) ls
theorem zip_w : ∀ (ls : List Int) (k : Nat), ((ls.zipIdx k).map fun p => ((p.2 : Nat) : Int) * p.1).sum = wsum k ls
  | [], _ => rfl
  | l :: ls, k => by
    have := zip_w ls (k + 1)
    simp only [List.zipIdx_cons, List.map_cons, List.sum_cons, this, wsum]; rfl
theorem zip_q : ∀ (ls : List Int) (k : Nat), ((ls.zipIdx k).map fun p => ((p.2 : Nat) : Int) * ((p.2 : Nat) : Int) * p.1).sum = qsum k ls
  | [], _ => rfl
  | l :: ls, k => by
    have := zip_q ls (k + 1)
    simp only [List.zipIdx_cons, List.map_cons, List.sum_cons, this, qsum]; rfl
theorem zip_l : ∀ (ls : List Int) (k : Nat), ((ls.zipIdx k).map fun p => p.1).sum = ls.sum
  | [], _ => rfl
  | l :: ls, k => by
    have := zip_l ls (k + 1)
    simp only [List.zipIdx_cons, List.map_cons, List.sum_cons, this]
theorem sum_le : ∀ (ls : List Int), (∀ l ∈ ls, 0 ≤ l ∧ l ≤ 100) → ls.sum ≤ 100 * ls.length
  | [], _ => by simp
  | x :: a, h => by
    have h1 := h x List.mem_cons_self
    have h2 := sum_le a fun l hl => h l (List.mem_cons_of_mem _ hl)
    simp only [List.sum_cons, List.length_cons]; omega
theorem wsum_le : ∀ (ls : List Int) (k : Int), 0 ≤ k → k + ls.length ≤ 30 → (∀ l ∈ ls, 0 ≤ l ∧ l ≤ 100) → 0 ≤ wsum k ls ∧ wsum k ls ≤ 3000 * ls.length
  | [], k, _, _, _ => by simp [wsum]
  | x :: a, k, hk, hl, h => by
    have h1 := h x List.mem_cons_self
    simp only [List.length_cons, Int.natCast_add, Int.natCast_one] at hl
    have h2 := wsum_le a (k + 1) (by omega) (by omega) fun l hl => h l (List.mem_cons_of_mem _ hl)
    have h3 : k * x ≤ 30 * 100 := Int.mul_le_mul (by omega) h1.2 h1.1 (by decide)
    have h4 : 0 ≤ k * x := Int.mul_nonneg hk h1.1
    simp only [wsum, List.length_cons]; omega
theorem qsum_le : ∀ (ls : List Int) (k : Int), 0 ≤ k → k + ls.length ≤ 30 → (∀ l ∈ ls, 0 ≤ l ∧ l ≤ 100) → 0 ≤ qsum k ls ∧ qsum k ls ≤ 90000 * ls.length
  | [], k, _, _, _ => by simp [qsum]
  | x :: a, k, hk, hl, h => by
    have h1 := h x List.mem_cons_self
    simp only [List.length_cons, Int.natCast_add, Int.natCast_one] at hl
    have h2 := qsum_le a (k + 1) (by omega) (by omega) fun l hl => h l (List.mem_cons_of_mem _ hl)
    have h5 : k * k ≤ 30 * 30 := Int.mul_le_mul (by omega) (by omega) hk (by decide)
    have h6 : 0 ≤ k * k := Int.mul_nonneg hk hk
    have h3 : k * k * x ≤ 30 * 30 * 100 := Int.mul_le_mul h5 h1.2 h1.1 (by decide)
    have h4 : 0 ≤ k * k * x := Int.mul_nonneg h6 h1.1
    simp only [qsum, List.length_cons]; omega
/-- the numbers of a flow -/
structure Nums (ls : List Int) : Prop where
  s0 : 0 < ls.sum
  s1 : ls.sum ≤ 2000
  w0 : 0 ≤ wsum 0 ls
  w1 : wsum 0 ls ≤ 60000
  q0 : 0 ≤ qsum 0 ls
  q1 : qsum 0 ls ≤ 1800000
theorem Dom.nums {ls : List Int} (d : Dom ls) : Nums ls := by
  have h1 := sum_le ls d.ge
  have h2 := wsum_le ls 0 (by decide) (by have := d.len; omega) d.ge
  have h3 := qsum_le ls 0 (by decide) (by have := d.len; omega) d.ge
  have h4 := d.len
  exact ⟨d.pos, by omega, h2.1, by omega, h3.1, by omega⟩
theorem bd_of {i : Int} (h : -1000000000000 ≤ i) (h2 : i ≤ 1000000000000) : bd i := by unfold bd; omega
theorem small_of {i : Int} (h : -1000000000000 ≤ i) (h2 : i ≤ 1000000000000) : small i := by
  have := log_lt (i := i) (k := 60) (by omega) (by decide)
  unfold small; omega
theorem enum_pw (ls : List Int) : enumL (ls.map W.int) = pw ((ls.zipIdx).map fun p => (((p.2 : Nat) : Int), p.1)) := by
  unfold enumL pw
  rw [List.zipIdx_map, List.map_map, List.map_map]
  rfl
theorem okP_enum {ls : List Int} (d : Dom ls) : OkP ((ls.zipIdx).map fun p => (((p.2 : Nat) : Int), p.1)) where
  len := by have := d.len; simp; omega
  bd1 := fun p hp => by
    obtain ⟨q, hq, rfl⟩ := List.mem_map.mp hp
    obtain ⟨h1, h2, h3⟩ := List.mem_zipIdx hq
    have h4 := d.ge q.1 (by rw [h3]; exact List.getElem_mem _)
    have := d.len
    exact ⟨bd_of (by omega) (by omega), bd_of (by omega) (by omega)⟩
  pos := by rw [List.map_map]; have := zip_l ls 0; simp only [Function.comp_def]; rw [this]; exact d.pos
  sm := by rw [List.map_map]; have := zip_l ls 0; simp only [Function.comp_def]; rw [this]; have := d.nums; exact small_of (by have := this.s0; omega) (by have := this.s1; omega)
theorem okP_sq {ls : List Int} (d : Dom ls) : OkP ((ls.zipIdx).map fun p => (((p.2 : Nat) : Int) * ((p.2 : Nat) : Int), p.1)) where
  len := by have := d.len; simp; omega
  bd1 := fun p hp => by
    obtain ⟨q, hq, rfl⟩ := List.mem_map.mp hp
    obtain ⟨h1, h2, h3⟩ := List.mem_zipIdx hq
    have h4 := d.ge q.1 (by rw [h3]; exact List.getElem_mem _)
    have := d.len
    have h5 : ((q.2 : Nat) : Int) * ((q.2 : Nat) : Int) ≤ 30 * 30 := Int.mul_le_mul (by omega) (by omega) (by omega) (by decide)
    have h6 : 0 ≤ ((q.2 : Nat) : Int) * ((q.2 : Nat) : Int) := Int.mul_nonneg (by omega) (by omega)
    exact ⟨bd_of (by show _ ≤ ((q.2 : Nat) : Int) * ((q.2 : Nat) : Int); omega) (by show ((q.2 : Nat) : Int) * ((q.2 : Nat) : Int) ≤ _; omega), bd_of (by omega) (by omega)⟩
  pos := by rw [List.map_map]; have := zip_l ls 0; simp only [Function.comp_def]; rw [this]; exact d.pos
  sm := by rw [List.map_map]; have := zip_l ls 0; simp only [Function.comp_def]; rw [this]; have := d.nums; exact small_of (by have := this.s0; omega) (by have := this.s1; omega)
open Classical in
/-- a def of one flow -/
noncomputable def onFlow (k : List Int → Store → Res W) : Fv := fun ws S => if h : ∃ ls, ws = [.tup (ls.map W.int)] ∧ Dom ls then k h.choose S else .bad
theorem ints_inj : ∀ {P Q : List Int}, P.map W.int = Q.map W.int → P = Q
  | [], [], _ => rfl
  | [], _ :: _, h => by cases h
  | _ :: _, [], h => by cases h
  | a :: P, c :: Q, h => by
    injection h with h1 h2
    injection h1 with h3
    rw [h3, ints_inj h2]
theorem onFlow_eq {k : List Int → Store → Res W} {ls : List Int} {S : Store} (d : Dom ls) : onFlow k [.tup (ls.map W.int)] S = k ls S := by
  have hx : ∃ l, [W.tup (ls.map W.int)] = [.tup (l.map W.int)] ∧ Dom l := ⟨ls, rfl, d⟩
  have e : hx.choose = ls := by
    have h1 := hx.choose_spec.1
    injection h1 with h2
    injection h2 with h3
    exact (ints_inj h3).symm
  unfold onFlow
  rw [dif_pos hx, e]
theorem onFlow_im {f : Fv} {k : List Int → Store → Res W} (h : ∀ ls S, Dom ls → f [.tup (ls.map W.int)] S = k ls S) : Impl f (onFlow k) := Impl.of fun ws S => by
  by_cases hx : ∃ ls, ws = [.tup (ls.map W.int)] ∧ Dom ls
  · obtain ⟨ls, rfl, d⟩ := hx
    right
    rw [onFlow_eq d]
    exact h ls S d
  · left
    unfold onFlow
    rw [dif_neg hx]
noncomputable def mean_fv : Fv := onFlow fun ls S => .ok (fracP (wsum 0 ls) ls.sum) S
noncomputable def second_fv : Fv := onFlow fun ls S => .ok (fracP (qsum 0 ls) ls.sum) S
theorem mean_im : Impl (runBody 1 1 (mean_sv mean_of_fv)) mean_fv := onFlow_im fun ls S d => by
  have e := mean_of_eq (S := S) (okP_enum d)
  rw [← enum_pw, List.map_map, List.map_map] at e
  have e1 := zip_w ls 0
  have e2 := zip_l ls 0
  simp only [Function.comp_def] at e
  rw [show ((0 : Nat) : Int) = 0 from rfl] at e1
  rw [e1, e2] at e
  simp only [runBody, mean_sv, sRet, eFn, aCons, aNil, eListEnum, eVar, Res.bind, Res.toS, List.length_cons, List.length_nil, List.map_cons, List.map_nil, List.cons_append, List.nil_append, List.replicate, if_true, List.getElem?_cons_zero, seqT, e]
theorem second_im : Impl (runBody 1 3 (second_sv mean_of_fv)) second_fv := onFlow_im fun ls S d => by
  have e := mean_of_eq (S := S) (okP_sq d)
  rw [List.map_map, List.map_map] at e
  have e1 := zip_q ls 0
  have e2 := zip_l ls 0
  simp only [Function.comp_def] at e
  rw [show ((0 : Nat) : Int) = 0 from rfl] at e1
  rw [e1, e2] at e
  have k1 : ∀ env : Env, env.length = 3 → compL none (gTup [gName 1, gName 2]) tYes (eTup (aCons (eOp mulW (eVar 1) (eVar 1)) (aCons (eVar 2) aNil))) env (enumL (ls.map W.int)) S = .ok (pw ((ls.zipIdx).map fun p => (((p.2 : Nat) : Int) * ((p.2 : Nat) : Int), p.1))) S := fun env he => by
    rw [enum_pw]
    rw [compL_map (f := fun w => match w with | .tup [.int a, .int b] => .tup [.int (a * a), .int b] | w => w) _ fun w hw => ?_]
    · simp [List.map_map, Function.comp_def]
    obtain ⟨p, hp, rfl⟩ := List.mem_map.mp hw
    have b1 := ((okP_enum d).bd1 p hp).1
    match env, he with
    | [a, b, c], _ => exact ⟨_, rfl, by simp [runBody, sSeq, sAsg, sPar, sIf, sRet, sRetN, sExpr, sSkip, sPut, sRaise, eOp, eUn, eVar, eC, eTup, eLst, eLstS, eFn, eCall, eCut, eIf, eAnd, eOr, eNot, eMt, eFz, tVal, tAnd, tOr, tNot, tYes, aCons, aNil, oNone, oSome, HW.gName, HW.gTup, HW.gList, Res.bind, Res.toS, ltW, leW, gtW, geW, cmpI, addW, subW, mulW, fdivW, modW, powW, absW, intW, lenW, seqT, seqR, seqL, newL, newT, newLS, LIM, bd_mulOk b1 b1]⟩
  have k1' := k1 (wipeE [some (.tup (ls.map W.int)), none, none] [1, 2]) rfl
  have l1 : ls.length ≤ 16000000 := by have := d.len; omega
  simp only [runBody, second_sv, sRet, eFn, aCons, aNil, eComp, iEnum', eVar, Res.bind, Res.toS, List.length_cons, List.length_nil, List.map_cons, List.map_nil, List.cons_append, List.nil_append, List.replicate, if_true, List.getElem?_cons_zero, seqT, guardOf, k1', newL, List.length_map, List.length_zipIdx, LIM, l1, e]

end K59
end HW
namespace HW
open PySem L2
open PyProof.Rows hiding St
namespace K59
/-! ### rest -/
theorem nu_le {t b : Int} (h : 0 < b) : (nu t b).natAbs ≤ t.natAbs := by
  have h1 := congrArg Int.natAbs (nu_mul t b)
  rw [Int.natAbs_mul, Int.natAbs_natCast] at h1
  have := gcd_pos (t := t) h
  rw [← h1]
  exact Nat.le_mul_of_pos_right _ this
theorem nu_pos {t b : Int} (h : 0 < b) (ht : 0 < t) : 0 < nu t b := by
  have h1 := nu_mul t b
  have h2 := gcd_pos (t := t) h
  apply Int.not_le.mp
  intro hle
  have : nu t b * (Nat.gcd t.natAbs b.natAbs : Int) ≤ 0 := Int.mul_nonpos_of_nonpos_of_nonneg hle (by omega)
  omega
theorem nu_lt_de {t b : Int} (h : 0 < b) : nu t b < de t b ↔ t < b := by
  have h1 := nu_mul t b
  have h2 := de_mul t b
  have h3 : (0 : Int) < (Nat.gcd t.natAbs b.natAbs : Int) := by have := gcd_pos (t := t) h; omega
  constructor
  · intro q
    have := Int.mul_lt_mul_of_pos_right q h3
    omega
  · intro q
    apply Int.not_le.mp
    intro hle
    have := Int.mul_le_mul_of_nonneg_right hle (Int.le_of_lt h3)
    omega
theorem de_lt_nu {t b : Int} (h : 0 < b) : de t b < nu t b ↔ b < t := by
  have h1 := nu_mul t b
  have h2 := de_mul t b
  have h3 : (0 : Int) < (Nat.gcd t.natAbs b.natAbs : Int) := by have := gcd_pos (t := t) h; omega
  constructor
  · intro q
    have := Int.mul_lt_mul_of_pos_right q h3
    omega
  · intro q
    apply Int.not_le.mp
    intro hle
    have := Int.mul_le_mul_of_nonneg_right hle (Int.le_of_lt h3)
    omega
theorem bd_nu {t b : Int} (h : 0 < b) (h1 : -1000000000000 ≤ t) (h2 : t ≤ 1000000000000) : bd (nu t b) := by
  have := nu_le (t := t) h
  unfold bd; omega
theorem bd_de {t b : Int} (h : 0 < b) (h2 : b ≤ 1000000000000) : bd (de t b) := by
  have h3 := de_le (t := t) h
  have h4 := de_pos (t := t) h
  unfold bd; omega
theorem minus_eq {p q r s : Int} {S : Store} (h1 : bd p) (h2 : bd q) (h3 : bd r) (h4 : bd s) (h5 : 0 < q) (h6 : 0 < s) : minus_fv [.tup [.int p, .int q], .tup [.int r, .int s]] S = .ok (fracP (p * s - r * q) (q * s)) S := if_pos ⟨h1, h2, h3, h4, h5, h6⟩
theorem times_eq {p q r s : Int} {S : Store} (h1 : bd p) (h2 : bd q) (h3 : bd r) (h4 : bd s) (h5 : 0 < q) (h6 : 0 < s) : times_fv [.tup [.int p, .int q], .tup [.int r, .int s]] S = .ok (fracP (p * r) (q * s)) S := if_pos ⟨h1, h2, h3, h4, h5, h6⟩
theorem over_eq {p q r s : Int} {S : Store} (h1 : bd p) (h2 : bd q) (h3 : bd r) (h4 : bd s) (h5 : 0 < q) (h6 : 0 < r) : over_fv [.tup [.int p, .int q], .tup [.int r, .int s]] S = .ok (fracP (p * s) (q * r)) S := if_pos ⟨h1, h2, h3, h4, h5, h6⟩
theorem mean_eq {ls : List Int} {S : Store} (d : Dom ls) : mean_fv [.tup (ls.map W.int)] S = .ok (.tup [.int (nu (wsum 0 ls) ls.sum), .int (de (wsum 0 ls) ls.sum)]) S := onFlow_eq d
theorem second_eq {ls : List Int} {S : Store} (d : Dom ls) : second_fv [.tup (ls.map W.int)] S = .ok (.tup [.int (nu (qsum 0 ls) ls.sum), .int (de (qsum 0 ls) ls.sum)]) S := onFlow_eq d
noncomputable def lacking_fv : Fv := onFlow fun ls S => .ok (fracP (ls.sum - wsum 0 ls) ls.sum) S
theorem lacking_eq {ls : List Int} {S : Store} (d : Dom ls) : lacking_fv [.tup (ls.map W.int)] S = .ok (.tup [.int (nu (ls.sum - wsum 0 ls) ls.sum), .int (de (ls.sum - wsum 0 ls) ls.sum)]) S := onFlow_eq d
theorem lacking_im : Impl (runBody 1 1 (lacking_sv minus_fv mean_fv)) lacking_fv := onFlow_im fun ls S d => by
  have n := d.nums
  have b1 : bd (nu (wsum 0 ls) ls.sum) := bd_nu n.s0 (by have := n.w0; omega) (by have := n.w1; omega)
  have b2 : bd (de (wsum 0 ls) ls.sum) := bd_de n.s0 (by have := n.s1; omega)
  have p2 := de_pos (t := wsum 0 ls) n.s0
  have b3 : bd 1 := by decide
  have e := minus_eq (S := S) b3 b3 b1 b2 (by decide) p2
  have c : fracP (1 * de (wsum 0 ls) ls.sum - nu (wsum 0 ls) ls.sum * 1) (1 * de (wsum 0 ls) ls.sum) = fracP (ls.sum - wsum 0 ls) ls.sum := by
    have := nu_de (wsum 0 ls) ls.sum
    refine fracP_congr (by omega) n.s0 ?_
    grind
  rw [c] at e
  simp [runBody, sSeq, sAsg, sPar, sIf, sRet, sRetN, sExpr, sSkip, sPut, sRaise, eOp, eUn, eVar, eC, eTup, eLst, eLstS, eFn, eCall, eCut, eIf, eAnd, eOr, eNot, eMt, eFz, tVal, tAnd, tOr, tNot, tYes, aCons, aNil, oNone, oSome, HW.gName, HW.gTup, HW.gList, Res.bind, Res.toS, ltW, leW, gtW, geW, cmpI, addW, subW, mulW, fdivW, modW, powW, absW, intW, lenW, seqT, seqR, seqL, newL, newT, newLS, LIM, lacking_sv, mean_eq d, e]
open Classical in
noncomputable def onFlowI (k : List Int → Int → Store → Res W) : Fv := fun ws S => if h : ∃ (ls : List Int) (i : Int), ws = [.tup (ls.map W.int), .int i] ∧ Dom ls ∧ 0 ≤ i ∧ i ≤ 16 then k h.choose h.choose_spec.choose S else .bad
theorem onFlowI_eq {k : List Int → Int → Store → Res W} {ls : List Int} {i : Int} {S : Store} (d : Dom ls) (h0 : 0 ≤ i) (h1 : i ≤ 16) : onFlowI k [.tup (ls.map W.int), .int i] S = k ls i S := by
  have hx : ∃ (l : List Int) (j : Int), [W.tup (ls.map W.int), .int i] = [.tup (l.map W.int), .int j] ∧ Dom l ∧ 0 ≤ j ∧ j ≤ 16 := ⟨ls, i, rfl, d, h0, h1⟩
  have e := hx.choose_spec.choose_spec.1
  injection e with e1 e2
  injection e1 with e3
  injection e2 with e4
  injection e4 with e5
  have e6 := ints_inj e3
  unfold onFlowI
  rw [dif_pos hx, ← e5, ← e6]
theorem onFlowI_im {f : Fv} {k : List Int → Int → Store → Res W} (h : ∀ ls i S, Dom ls → 0 ≤ i → i ≤ 16 → k ls i S = .bad ∨ f [.tup (ls.map W.int), .int i] S = k ls i S) : Impl f (onFlowI k) := Impl.of fun ws S => by
  by_cases hx : ∃ (ls : List Int) (i : Int), ws = [.tup (ls.map W.int), .int i] ∧ Dom ls ∧ 0 ≤ i ∧ i ≤ 16
  · obtain ⟨ls, i, rfl, d, h0, h1⟩ := hx
    rw [onFlowI_eq d h0 h1]
    exact h ls i S d h0 h1
  · left
    unfold onFlowI
    rw [dif_neg hx]
def wordOf (ls : List Int) : Str := if wsum 0 ls < ls.sum then "rests" else if ls.sum < wsum 0 ls then "runs" else if ls.length = 2 then "still" else "swings"
noncomputable def word_of_fv : Fv := onFlowI fun ls i S => if i = 1 then .ok (.str (wordOf ls)) S else .bad
theorem word_of_im : Impl (runBody 2 3 (word_of_sv mean_fv less_fv)) word_of_fv := onFlowI_im fun ls i S d h0 h1 => by
  by_cases hi : i = 1
  · subst hi
    right
    have n := d.nums
    have b1 : bd (nu (wsum 0 ls) ls.sum) := bd_nu n.s0 (by have := n.w0; omega) (by have := n.w1; omega)
    have b2 : bd (de (wsum 0 ls) ls.sum) := bd_de n.s0 (by have := n.s1; omega)
    have b3 : bd 1 := by decide
    have c1 := nu_lt_de (t := wsum 0 ls) n.s0
    have c2 := de_lt_nu (t := wsum 0 ls) n.s0
    have l2 : eqW (.int 2) (.int 2) S = .ok (.bl true) S := by simp [eqW, deref, W.okD, W.eqv, DEEP]
    have l1 : eqW (.int ls.length) (.int 2) S = .ok (.bl (decide (ls.length = 2))) S := by
      simp [eqW, deref, W.okD, W.eqv, DEEP]
      have : ((ls.length : Int) == 2) = decide (ls.length = 2) := by
        by_cases q : ls.length = 2
        · simp [q]
        · have : ¬ (ls.length : Int) = 2 := by omega
          simp [q, this]
      exact this
    have e1 := mean_eq (S := S) d
    by_cases q1 : wsum 0 ls < ls.sum
    · have := c1.mpr q1
      simp [runBody, sSeq, sAsg, sPar, sIf, sRet, sRetN, sExpr, sSkip, sPut, sRaise, eOp, eUn, eVar, eC, eTup, eLst, eLstS, eFn, eCall, eCut, eIf, eAnd, eOr, eNot, eMt, eFz, tVal, tAnd, tOr, tNot, tYes, aCons, aNil, oNone, oSome, HW.gName, HW.gTup, HW.gList, Res.bind, Res.toS, ltW, leW, gtW, geW, cmpI, addW, subW, mulW, fdivW, modW, powW, absW, intW, lenW, seqT, seqR, seqL, newL, newT, newLS, LIM, word_of_sv, e1, less_fv, b1, b2, b3, this, wordOf, q1]
    · have z1 : ¬ nu (wsum 0 ls) ls.sum < de (wsum 0 ls) ls.sum := fun z => q1 (c1.mp z)
      by_cases q2 : ls.sum < wsum 0 ls
      · have := c2.mpr q2
        simp [runBody, sSeq, sAsg, sPar, sIf, sRet, sRetN, sExpr, sSkip, sPut, sRaise, eOp, eUn, eVar, eC, eTup, eLst, eLstS, eFn, eCall, eCut, eIf, eAnd, eOr, eNot, eMt, eFz, tVal, tAnd, tOr, tNot, tYes, aCons, aNil, oNone, oSome, HW.gName, HW.gTup, HW.gList, Res.bind, Res.toS, ltW, leW, gtW, geW, cmpI, addW, subW, mulW, fdivW, modW, powW, absW, intW, lenW, seqT, seqR, seqL, newL, newT, newLS, LIM, word_of_sv, e1, less_fv, b1, b2, b3, z1, this, wordOf, q1, q2]
      · have z2 : ¬ de (wsum 0 ls) ls.sum < nu (wsum 0 ls) ls.sum := fun z => q2 (c2.mp z)
        by_cases q3 : ls.length = 2
        · simp [runBody, sSeq, sAsg, sPar, sIf, sRet, sRetN, sExpr, sSkip, sPut, sRaise, eOp, eUn, eVar, eC, eTup, eLst, eLstS, eFn, eCall, eCut, eIf, eAnd, eOr, eNot, eMt, eFz, tVal, tAnd, tOr, tNot, tYes, aCons, aNil, oNone, oSome, HW.gName, HW.gTup, HW.gList, Res.bind, Res.toS, ltW, leW, gtW, geW, cmpI, addW, subW, mulW, fdivW, modW, powW, absW, intW, lenW, seqT, seqR, seqL, newL, newT, newLS, LIM, word_of_sv, e1, less_fv, b1, b2, b3, z1, z2, wordOf, q1, q2, q3, l1, l2]
        · simp [runBody, sSeq, sAsg, sPar, sIf, sRet, sRetN, sExpr, sSkip, sPut, sRaise, eOp, eUn, eVar, eC, eTup, eLst, eLstS, eFn, eCall, eCut, eIf, eAnd, eOr, eNot, eMt, eFz, tVal, tAnd, tOr, tNot, tYes, aCons, aNil, oNone, oSome, HW.gName, HW.gTup, HW.gList, Res.bind, Res.toS, ltW, leW, gtW, geW, cmpI, addW, subW, mulW, fdivW, modW, powW, absW, intW, lenW, seqT, seqR, seqL, newL, newT, newLS, LIM, word_of_sv, e1, less_fv, b1, b2, b3, z1, z2, wordOf, q1, q2, q3, l1, l2]
  · exact .inl (if_neg hi)

noncomputable def ask_rest_fv : Fv := onFlowI fun ls i S => if i = 1 then (if wsum 0 ls < ls.sum then .ok .non S else .exn "NoRest" [("word", .str (wordOf ls))] S) else .bad
theorem neW_word {a b : Str} {S : Store} (h1 : okS a = true) (h2 : okS b = true) : neW (.str a) (.str b) S = .ok (.bl (!(a == b))) S := by
  simp [neW, deref, W.okD, W.eqv, DEEP, h1, h2]
theorem wordOf_ok (ls : List Int) : okS (wordOf ls) = true := by
  unfold wordOf
  split
  · decide +kernel
  · split
    · decide +kernel
    · split <;> decide +kernel
theorem wordOf_rests (ls : List Int) : (wordOf ls == "rests") = decide (wsum 0 ls < ls.sum) := by
  unfold wordOf
  split
  · rename_i h; simp [h]
  · rename_i h
    have e : decide (wsum 0 ls < ls.sum) = false := by simp [h]
    rw [e]
    split
    · decide +kernel
    · split <;> decide +kernel
theorem ask_rest_im : Impl (runBody 2 3 (ask_rest_sv word_of_fv)) ask_rest_fv := onFlowI_im fun ls i S d h0 h1 => by
  by_cases hi : i = 1
  · subst hi
    right
    have e : word_of_fv [.tup (ls.map W.int), .int 1] S = .ok (.str (wordOf ls)) S := by
      have := onFlowI_eq (k := fun ls i S => if i = 1 then .ok (.str (wordOf ls)) S else .bad) (S := S) d h0 h1
      rw [if_pos rfl] at this
      exact this
    have n1 : neW (.str (wordOf ls)) (.str "rests") S = .ok (.bl (!decide (wsum 0 ls < ls.sum))) S := by rw [neW_word (wordOf_ok ls) (by decide +kernel), wordOf_rests]
    by_cases q : wsum 0 ls < ls.sum
    · simp [runBody, sSeq, sAsg, sPar, sIf, sRet, sRetN, sExpr, sSkip, sPut, sRaise, eOp, eUn, eVar, eC, eTup, eLst, eLstS, eFn, eCall, eCut, eIf, eAnd, eOr, eNot, eMt, eFz, tVal, tAnd, tOr, tNot, tYes, aCons, aNil, oNone, oSome, HW.gName, HW.gTup, HW.gList, Res.bind, Res.toS, ltW, leW, gtW, geW, cmpI, addW, subW, mulW, fdivW, modW, powW, absW, intW, lenW, seqT, seqR, seqL, newL, newT, newLS, LIM, ask_rest_sv, e, n1, q]
    · simp [runBody, sSeq, sAsg, sPar, sIf, sRet, sRetN, sExpr, sSkip, sPut, sRaise, eOp, eUn, eVar, eC, eTup, eLst, eLstS, eFn, eCall, eCut, eIf, eAnd, eOr, eNot, eMt, eFz, tVal, tAnd, tOr, tNot, tYes, aCons, aNil, oNone, oSome, HW.gName, HW.gTup, HW.gList, Res.bind, Res.toS, ltW, leW, gtW, geW, cmpI, addW, subW, mulW, fdivW, modW, powW, absW, intW, lenW, seqT, seqR, seqL, newL, newT, newLS, LIM, ask_rest_sv, e, n1, q]
  · exact .inl (if_neg hi)
theorem ask_eq {ls : List Int} {S : Store} (d : Dom ls) : ask_rest_fv [.tup (ls.map W.int), .int 1] S = if wsum 0 ls < ls.sum then .ok .non S else .exn "NoRest" [("word", .str (wordOf ls))] S := by
  have := onFlowI_eq (k := fun ls i S => if i = 1 then (if wsum 0 ls < ls.sum then .ok .non S else .exn "NoRest" [("word", .str (wordOf ls))] S) else .bad) (S := S) d (by decide) (by decide : (1 : Int) ≤ 16)
  rw [if_pos rfl] at this
  exact this
noncomputable def empty_mean_fv : Fv := onFlowI fun ls i S => if wsum 0 ls < ls.sum then .ok (fracP (i * ls.sum) (ls.sum - wsum 0 ls)) S else .exn "NoRest" [("word", .str (wordOf ls))] S
theorem empty_mean_im : Impl (runBody 2 2 (empty_mean_sv ask_rest_fv over_fv lacking_fv)) empty_mean_fv := onFlowI_im fun ls i S d h0 h1 => by
  right
  have n := d.nums
  by_cases q : wsum 0 ls < ls.sum
  · have a := ask_eq (S := S) d
    rw [if_pos q] at a
    have b1 : bd (nu (ls.sum - wsum 0 ls) ls.sum) := bd_nu n.s0 (by have := n.w1; have := n.s0; omega) (by have := n.s1; have := n.w0; omega)
    have b2 : bd (de (ls.sum - wsum 0 ls) ls.sum) := bd_de n.s0 (by have := n.s1; omega)
    have p1 := nu_pos (t := ls.sum - wsum 0 ls) n.s0 (by omega)
    have e := over_eq (S := S) (bd_of (i := i) (by omega) (by omega)) (by decide : bd 1) b1 b2 (by decide) p1
    have c : fracP (i * de (ls.sum - wsum 0 ls) ls.sum) (1 * nu (ls.sum - wsum 0 ls) ls.sum) = fracP (i * ls.sum) (ls.sum - wsum 0 ls) := by
      have := nu_de (ls.sum - wsum 0 ls) ls.sum
      refine fracP_congr (by omega) (by omega) ?_
      grind
    rw [c] at e
    simp [runBody, sSeq, sAsg, sPar, sIf, sRet, sRetN, sExpr, sSkip, sPut, sRaise, eOp, eUn, eVar, eC, eTup, eLst, eLstS, eFn, eCall, eCut, eIf, eAnd, eOr, eNot, eMt, eFz, tVal, tAnd, tOr, tNot, tYes, aCons, aNil, oNone, oSome, HW.gName, HW.gTup, HW.gList, Res.bind, Res.toS, ltW, leW, gtW, geW, cmpI, addW, subW, mulW, fdivW, modW, powW, absW, intW, lenW, seqT, seqR, seqL, newL, newT, newLS, LIM, empty_mean_sv, a, lacking_eq d, e, q]
  · have a := ask_eq (S := S) d
    rw [if_neg q] at a
    simp [runBody, sSeq, sAsg, sPar, sIf, sRet, sRetN, sExpr, sSkip, sPut, sRaise, eOp, eUn, eVar, eC, eTup, eLst, eLstS, eFn, eCall, eCut, eIf, eAnd, eOr, eNot, eMt, eFz, tVal, tAnd, tOr, tNot, tYes, aCons, aNil, oNone, oSome, HW.gName, HW.gTup, HW.gList, Res.bind, Res.toS, ltW, leW, gtW, geW, cmpI, addW, subW, mulW, fdivW, modW, powW, absW, intW, lenW, seqT, seqR, seqL, newL, newT, newLS, LIM, empty_mean_sv, a, q]
noncomputable def mean_standing_fv : Fv := onFlow fun ls S => if wsum 0 ls < ls.sum then .ok (fracP (qsum 0 ls - wsum 0 ls) (2 * (ls.sum - wsum 0 ls))) S else .exn "NoRest" [("word", .str (wordOf ls))] S
theorem mean_standing_im : Impl (runBody 1 1 (mean_standing_sv ask_rest_fv over_fv times_fv lacking_fv minus_fv mean_fv second_fv)) mean_standing_fv := onFlow_im fun ls S d => by
  have n := d.nums
  have s0 := n.s0; have s1 := n.s1; have w0 := n.w0; have w1 := n.w1; have q0 := n.q0; have q1 := n.q1
  by_cases q : wsum 0 ls < ls.sum
  · have a := ask_eq (S := S) d
    rw [if_pos q] at a
    have m1 : bd (nu (wsum 0 ls) ls.sum) := bd_nu s0 (by omega) (by omega)
    have m2 : bd (de (wsum 0 ls) ls.sum) := bd_de s0 (by omega)
    have m3 := de_pos (t := wsum 0 ls) s0
    have k1 : bd (nu (qsum 0 ls) ls.sum) := bd_nu s0 (by omega) (by omega)
    have k2 : bd (de (qsum 0 ls) ls.sum) := bd_de s0 (by omega)
    have k3 := de_pos (t := qsum 0 ls) s0
    have b1 : bd (nu (ls.sum - wsum 0 ls) ls.sum) := bd_nu s0 (by omega) (by omega)
    have b2 : bd (de (ls.sum - wsum 0 ls) ls.sum) := bd_de s0 (by omega)
    have b3 := de_pos (t := ls.sum - wsum 0 ls) s0
    have e1 := minus_eq (S := S) k1 k2 m1 m2 k3 m3
    have c1 : fracP (nu (qsum 0 ls) ls.sum * de (wsum 0 ls) ls.sum - nu (wsum 0 ls) ls.sum * de (qsum 0 ls) ls.sum) (de (qsum 0 ls) ls.sum * de (wsum 0 ls) ls.sum) = fracP (qsum 0 ls - wsum 0 ls) ls.sum := by
      have h1 := nu_de (qsum 0 ls) ls.sum
      have h2 := nu_de (wsum 0 ls) ls.sum
      refine fracP_congr (Int.mul_pos k3 m3) s0 ?_
      grind
    rw [c1] at e1
    have e2 := times_eq (S := S) (by decide : bd 2) (by decide : bd 1) b1 b2 (by decide) b3
    have c2 : fracP (2 * nu (ls.sum - wsum 0 ls) ls.sum) (1 * de (ls.sum - wsum 0 ls) ls.sum) = fracP (2 * (ls.sum - wsum 0 ls)) ls.sum := by
      have h1 := nu_de (ls.sum - wsum 0 ls) ls.sum
      refine fracP_congr (by omega) s0 ?_
      grind
    rw [c2] at e2
    rw [fracP_eq] at e1 e2
    have z1 : bd (nu (qsum 0 ls - wsum 0 ls) ls.sum) := bd_nu s0 (by omega) (by omega)
    have z2 : bd (de (qsum 0 ls - wsum 0 ls) ls.sum) := bd_de s0 (by omega)
    have z3 := de_pos (t := qsum 0 ls - wsum 0 ls) s0
    have y1 : bd (nu (2 * (ls.sum - wsum 0 ls)) ls.sum) := bd_nu s0 (by omega) (by omega)
    have y2 : bd (de (2 * (ls.sum - wsum 0 ls)) ls.sum) := bd_de s0 (by omega)
    have y3 := nu_pos (t := 2 * (ls.sum - wsum 0 ls)) s0 (by omega)
    have e3 := over_eq (S := S) z1 z2 y1 y2 z3 y3
    have c3 : fracP (nu (qsum 0 ls - wsum 0 ls) ls.sum * de (2 * (ls.sum - wsum 0 ls)) ls.sum) (de (qsum 0 ls - wsum 0 ls) ls.sum * nu (2 * (ls.sum - wsum 0 ls)) ls.sum) = fracP (qsum 0 ls - wsum 0 ls) (2 * (ls.sum - wsum 0 ls)) := by
      have h1 := nu_de (qsum 0 ls - wsum 0 ls) ls.sum
      have h2 := nu_de (2 * (ls.sum - wsum 0 ls)) ls.sum
      refine fracP_congr (Int.mul_pos z3 y3) (by omega) ?_
      have hs : ls.sum ≠ 0 := by omega
      generalize nu (qsum 0 ls - wsum 0 ls) ls.sum = A at *
      generalize de (qsum 0 ls - wsum 0 ls) ls.sum = B at *
      generalize nu (2 * (ls.sum - wsum 0 ls)) ls.sum = C at *
      generalize de (2 * (ls.sum - wsum 0 ls)) ls.sum = D at *
      generalize hX : qsum 0 ls - wsum 0 ls = X at *
      generalize hY : 2 * (ls.sum - wsum 0 ls) = Y at *
      have : (A * D * Y - X * (B * C)) * ls.sum = 0 := by grind
      rcases Int.mul_eq_zero.mp this with z | z
      · omega
      · exact absurd z hs
    rw [c3] at e3
    simp [runBody, sSeq, sAsg, sPar, sIf, sRet, sRetN, sExpr, sSkip, sPut, sRaise, eOp, eUn, eVar, eC, eTup, eLst, eLstS, eFn, eCall, eCut, eIf, eAnd, eOr, eNot, eMt, eFz, tVal, tAnd, tOr, tNot, tYes, aCons, aNil, oNone, oSome, HW.gName, HW.gTup, HW.gList, Res.bind, Res.toS, ltW, leW, gtW, geW, cmpI, addW, subW, mulW, fdivW, modW, powW, absW, intW, lenW, seqT, seqR, seqL, newL, newT, newLS, LIM, mean_standing_sv, a, lacking_eq d, mean_eq d, second_eq d, e1, e2, e3, q]
  · have a := ask_eq (S := S) d
    rw [if_neg q] at a
    simp [runBody, sSeq, sAsg, sPar, sIf, sRet, sRetN, sExpr, sSkip, sPut, sRaise, eOp, eUn, eVar, eC, eTup, eLst, eLstS, eFn, eCall, eCut, eIf, eAnd, eOr, eNot, eMt, eFz, tVal, tAnd, tOr, tNot, tYes, aCons, aNil, oNone, oSome, HW.gName, HW.gTup, HW.gList, Res.bind, Res.toS, ltW, leW, gtW, geW, cmpI, addW, subW, mulW, fdivW, modW, powW, absW, intW, lenW, seqT, seqR, seqL, newL, newT, newLS, LIM, mean_standing_sv, a, q]

end K59
end HW
namespace HW
open PySem L2
open PyProof.Rows hiding St
namespace K59
/-! ### what is due -/
theorem lf_loop (t b : Int) (S : Store) : ∀ (c a : Nat), sWhile (tVal (eOp gtW (eVar 3) (eC (.int 0)))) (sPar 2 3 (aCons (eVar 3) (aCons (eOp modW (eVar 2) (eVar 3)) aNil))) [some (.int t), some (.int b), some (.int a), some (.int c)] S = .nx [some (.int t), some (.int b), some (.int (Nat.gcd a c)), some (.int 0)] S := by
  intro c
  induction c using Nat.strongRecOn with
  | _ c ih =>
    intro a
    by_cases hc : c = 0
    · subst hc
      rw [Nat.gcd_zero_right]
      exact sWhile_end (by simp [runBody, sSeq, sAsg, sPar, sIf, sRet, sRetN, sExpr, sSkip, sPut, sRaise, eOp, eUn, eVar, eC, eTup, eLst, eLstS, eFn, eCall, eCut, eIf, eAnd, eOr, eNot, eMt, eFz, tVal, tAnd, tOr, tNot, tYes, aCons, aNil, oNone, oSome, HW.gName, HW.gTup, HW.gList, Res.bind, Res.toS, ltW, leW, gtW, geW, cmpI, addW, subW, mulW, fdivW, modW, powW, absW, intW, lenW, seqT, seqR, seqL, newL, newT, newLS, LIM])
    · have h := ih (a % c) (Nat.mod_lt _ (Nat.pos_of_ne_zero hc)) c
      rw [sWhile_step (S1 := S) (S2 := S) (e2 := [some (.int t), some (.int b), some (.int c), some (.int ((a % c : Nat) : Int))]) ?_ ?_ (by rw [h]; simp), h, Nat.gcd_comm a c, Nat.gcd_rec c a, Nat.gcd_comm]
      · simp [runBody, sSeq, sAsg, sPar, sIf, sRet, sRetN, sExpr, sSkip, sPut, sRaise, eOp, eUn, eVar, eC, eTup, eLst, eLstS, eFn, eCall, eCut, eIf, eAnd, eOr, eNot, eMt, eFz, tVal, tAnd, tOr, tNot, tYes, aCons, aNil, oNone, oSome, HW.gName, HW.gTup, HW.gList, Res.bind, Res.toS, ltW, leW, gtW, geW, cmpI, addW, subW, mulW, fdivW, modW, powW, absW, intW, lenW, seqT, seqR, seqL, newL, newT, newLS, LIM, Nat.pos_of_ne_zero hc]
      · simp [runBody, sSeq, sAsg, sPar, sIf, sRet, sRetN, sExpr, sSkip, sPut, sRaise, eOp, eUn, eVar, eC, eTup, eLst, eLstS, eFn, eCall, eCut, eIf, eAnd, eOr, eNot, eMt, eFz, tVal, tAnd, tOr, tNot, tYes, aCons, aNil, oNone, oSome, HW.gName, HW.gTup, HW.gList, Res.bind, Res.toS, ltW, leW, gtW, geW, cmpI, addW, subW, mulW, fdivW, modW, powW, absW, intW, lenW, seqT, seqR, seqL, newL, newT, newLS, LIM, Nat.pos_of_ne_zero hc]
theorem law_frac_im : Impl (runBody 2 4 law_frac_sv) fraction_fv := Impl.of fun ws S => by
  unfold fraction_fv
  split
  · rename_i t b
    split
    · rename_i h
      right
      have hd := gcd_div (t := t) h.1 h.2
      have e1 : b = (b.natAbs : Int) := by omega
      have lp := lf_loop t b S b.natAbs t.natAbs
      rw [← e1] at lp
      simp only [runBody, law_frac_sv, sSeq, List.length_cons, List.length_nil, if_true, List.map_cons, List.map_nil, List.cons_append, List.nil_append, List.replicate]
      simp [sPar, aCons, aNil, eCall, eVar, absW, abs_if, Res.bind, Res.toS, lp, sRet, eTup, eOp, fdivW, hd, fracP, LIM]
    · exact .inl rfl
  · exact .inl rfl
def dueL (ls : List Int) (i : Int) : List W := if wsum 0 ls < ls.sum then [.tup [.str "told", fracP (i * ls.sum) (ls.sum - wsum 0 ls)], .tup [.str "told", fracP (qsum 0 ls - wsum 0 ls) (2 * (ls.sum - wsum 0 ls))]]
  else [.tup [.str "no", .str (wordOf ls)], .tup [.str "no", .str (wordOf ls)]]
noncomputable def law_due_fv : Fv := onFlowI fun ls i S => .ok (.lst (dueL ls i)) S
theorem frac_eq {t b : Int} {S : Store} (h : 0 < b) (h2 : small b) : fraction_fv [.int t, .int b] S = .ok (fracP t b) S := if_pos ⟨h, h2⟩
theorem law_due_im : Impl (runBody 2 10 (law_due_sv fraction_fv)) law_due_fv := onFlowI_im fun ls i S d h0 h1 => by
  right
  have n := d.nums
  have s0 := n.s0; have s1 := n.s1; have w0 := n.w0; have w1 := n.w1; have q0 := n.q0; have q1 := n.q1
  have i1 := intsOf_map ls
  have l0 : ls.length ≤ 16000000 := by have := d.len; omega
  have hen : enumL (ls.map W.int) = pw ((ls.zipIdx).map fun p => (((p.2 : Nat) : Int), p.1)) := enum_pw ls
  have k1 : ∀ env : Env, env.length = 10 → compL none (gTup [gName 4, gName 5]) tYes (eOp mulW (eVar 4) (eVar 5)) env (enumL (ls.map W.int)) S = .ok (((ls.zipIdx).map fun p => ((p.2 : Nat) : Int) * p.1).map W.int) S := fun env he => by
    rw [hen, compL_map (f := fun w => match w with | .tup [.int a, .int b] => .int (a * b) | w => w) _ fun w hw => ?_]
    · simp [List.map_map, Function.comp_def]
    obtain ⟨p, hp, rfl⟩ := List.mem_map.mp hw
    obtain ⟨b1, b2⟩ := (okP_enum d).bd1 p hp
    match env, he with
    | [a0, a1, a2, a3, a4, a5, a6, a7, a8, a9], _ => exact ⟨_, rfl, by simp [runBody, sSeq, sAsg, sPar, sIf, sRet, sRetN, sExpr, sSkip, sPut, sRaise, eOp, eUn, eVar, eC, eTup, eLst, eLstS, eFn, eCall, eCut, eIf, eAnd, eOr, eNot, eMt, eFz, tVal, tAnd, tOr, tNot, tYes, aCons, aNil, oNone, oSome, HW.gName, HW.gTup, HW.gList, Res.bind, Res.toS, ltW, leW, gtW, geW, cmpI, addW, subW, mulW, fdivW, modW, powW, absW, intW, lenW, seqT, seqR, seqL, newL, newT, newLS, LIM, bd_mulOk b1 b2]⟩
  have k2 : ∀ env : Env, env.length = 10 → compL none (gTup [gName 4, gName 5]) tYes (eOp mulW (eOp mulW (eVar 4) (eVar 4)) (eVar 5)) env (enumL (ls.map W.int)) S = .ok (((ls.zipIdx).map fun p => ((p.2 : Nat) : Int) * ((p.2 : Nat) : Int) * p.1).map W.int) S := fun env he => by
    rw [hen, compL_map (f := fun w => match w with | .tup [.int a, .int b] => .int (a * a * b) | w => w) _ fun w hw => ?_]
    · simp [List.map_map, Function.comp_def]
    obtain ⟨p, hp, rfl⟩ := List.mem_map.mp hw
    obtain ⟨q, hq, rfl⟩ := List.mem_map.mp hp
    have b1 := ((okP_enum d).bd1 _ hp).1
    have b2 := (okP_sq d).bd1 (((q.2 : Nat) : Int) * ((q.2 : Nat) : Int), q.1) (List.mem_map.mpr ⟨q, hq, rfl⟩)
    match env, he with
    | [a0, a1, a2, a3, a4, a5, a6, a7, a8, a9], _ => exact ⟨_, rfl, by simp [runBody, sSeq, sAsg, sPar, sIf, sRet, sRetN, sExpr, sSkip, sPut, sRaise, eOp, eUn, eVar, eC, eTup, eLst, eLstS, eFn, eCall, eCut, eIf, eAnd, eOr, eNot, eMt, eFz, tVal, tAnd, tOr, tNot, tYes, aCons, aNil, oNone, oSome, HW.gName, HW.gTup, HW.gList, Res.bind, Res.toS, ltW, leW, gtW, geW, cmpI, addW, subW, mulW, fdivW, modW, powW, absW, intW, lenW, seqT, seqR, seqL, newL, newT, newLS, LIM, bd_mulOk b1 b1, bd_mulOk b2.1 b2.2]⟩
  have z1 := intsOf_map ((ls.zipIdx).map fun p => ((p.2 : Nat) : Int) * p.1)
  have z2 := intsOf_map ((ls.zipIdx).map fun p => ((p.2 : Nat) : Int) * ((p.2 : Nat) : Int) * p.1)
  have y1 := zip_w ls 0
  have y2 := zip_q ls 0
  rw [show ((0 : Nat) : Int) = 0 from rfl] at y1 y2
  have k1' := k1 (wipeE [some (.tup (ls.map W.int)), some (.int i), some (.int ls.sum), none, none, none, none, none, none, none] [4, 5]) rfl
  have k2' := k2 (wipeE [some (.tup (ls.map W.int)), some (.int i), some (.int ls.sum), some (.int (wsum 0 ls)), none, none, none, none, none, none] [4, 5]) rfl
  have le1 : (List.map W.int (List.map (fun p => ((p.2 : Nat) : Int) * p.1) ls.zipIdx)).length ≤ LIM := by rw [List.length_map, List.length_map, List.length_zipIdx]; exact l0
  have le2 : (List.map W.int (List.map (fun p => ((p.2 : Nat) : Int) * ((p.2 : Nat) : Int) * p.1) ls.zipIdx)).length ≤ LIM := by rw [List.length_map, List.length_map, List.length_zipIdx]; exact l0
  have hA : eCall sumW (aCons (eComp (iEnum' (aCons (eVar 0) aNil)) (gTup [gName 4, gName 5]) tYes (eOp mulW (eVar 4) (eVar 5)) [4, 5]) aNil) [some (.tup (ls.map W.int)), some (.int i), some (.int ls.sum), none, none, none, none, none, none, none] S = .ok (.int (wsum 0 ls)) S := by
    simp only [eCall, aCons, aNil, eComp, iEnum', eVar, Res.bind, List.getElem?_cons_zero, seqT, guardOf, k1', newL, le1, if_true, sumW, onInts, seqR, seqL, z1, y1]
  have hB : eCall sumW (aCons (eComp (iEnum' (aCons (eVar 0) aNil)) (gTup [gName 4, gName 5]) tYes (eOp mulW (eOp mulW (eVar 4) (eVar 4)) (eVar 5)) [4, 5]) aNil) [some (.tup (ls.map W.int)), some (.int i), some (.int ls.sum), some (.int (wsum 0 ls)), none, none, none, none, none, none] S = .ok (.int (qsum 0 ls)) S := by
    simp only [eCall, aCons, aNil, eComp, iEnum', eVar, Res.bind, List.getElem?_cons_zero, seqT, guardOf, k2', newL, le2, if_true, sumW, onInts, seqR, seqL, z2, y2]
  have hS : eCall sumTW (aCons (eVar 0) aNil) [some (.tup (ls.map W.int)), some (.int i), none, none, none, none, none, none, none, none] S = .ok (.int ls.sum) S := by
    simp only [eCall, aCons, aNil, eVar, Res.bind, List.getElem?_cons_zero, sumTW, seqT, i1]
  by_cases q : wsum 0 ls < ls.sum
  · have m1 : mulOk i ls.sum := bd_mulOk (bd_of (by omega) (by omega)) (bd_of (by omega) (by omega))
    have m2 : mulOk 2 (ls.sum - wsum 0 ls) := bd_mulOk (by decide) (bd_of (by omega) (by omega))
    have f1 := frac_eq (t := i * ls.sum) (b := ls.sum - wsum 0 ls) (S := S) (by omega) (small_of (by omega) (by omega))
    have f2 := frac_eq (t := qsum 0 ls - wsum 0 ls) (b := 2 * (ls.sum - wsum 0 ls)) (S := S) (by omega) (small_of (by omega) (by omega))
    have k3 : ∀ env : Env, env.length = 10 → compL none (gName 8) tYes (eTup (aCons (eC (.str "told")) (aCons (eVar 8) aNil))) env [fracP (i * ls.sum) (ls.sum - wsum 0 ls), fracP (qsum 0 ls - wsum 0 ls) (2 * (ls.sum - wsum 0 ls))] S = .ok (dueL ls i) S := fun env he => by
      rw [compL_map (f := fun w => .tup [.str "told", w]) _ fun w hw => ?_]
      · unfold dueL; rw [if_pos q]; rfl
      match env, he with
      | [a0, a1, a2, a3, a4, a5, a6, a7, a8, a9], _ => exact ⟨_, rfl, by simp [runBody, sSeq, sAsg, sPar, sIf, sRet, sRetN, sExpr, sSkip, sPut, sRaise, eOp, eUn, eVar, eC, eTup, eLst, eLstS, eFn, eCall, eCut, eIf, eAnd, eOr, eNot, eMt, eFz, tVal, tAnd, tOr, tNot, tYes, aCons, aNil, oNone, oSome, HW.gName, HW.gTup, HW.gList, Res.bind, Res.toS, ltW, leW, gtW, geW, cmpI, addW, subW, mulW, fdivW, modW, powW, absW, intW, lenW, seqT, seqR, seqL, newL, newT, newLS, LIM]⟩
    have k3' := k3 (wipeE [some (.tup (ls.map W.int)), some (.int i), some (.int ls.sum), some (.int (wsum 0 ls)), none, none, some (.int (qsum 0 ls)), some (.lst [fracP (i * ls.sum) (ls.sum - wsum 0 ls), fracP (qsum 0 ls - wsum 0 ls) (2 * (ls.sum - wsum 0 ls))]), none, none] [8]) rfl
    have l2 : (dueL ls i).length ≤ 16000000 := by unfold dueL; rw [if_pos q]; simp
    simp only [runBody, law_due_sv, sSeq, sAsg, hS, hA, hB, Res.toS, HW.gName, List.length_cons, List.length_nil, if_true, List.map_cons, List.map_nil, List.cons_append, List.nil_append, List.replicate, List.set]
    simp [sIf, tVal, eOp, eVar, ltW, cmpI, Res.bind, Res.toS, q, sSeq, sAsg, eLst, aCons, aNil, eFn, mulW, subW, eC, m1, m2, f1, f2, LIM, HW.gName, sRet, eComp, iSeq, seqT, seqR, seqL, guardOf, k3', newL, l2]
  · have g1 : ∀ x : Str, ∃ w2 : W, w2 = .str x := fun x => ⟨_, rfl⟩
    have eL : eqW (.int ls.length) (.int 2) S = .ok (.bl (decide (ls.length = 2))) S := by
      simp [eqW, deref, W.okD, W.eqv, DEEP]
      by_cases q : ls.length = 2
      · simp [q]
      · have : ¬ (ls.length : Int) = 2 := by omega
        simp [q, this]
    have e0 : ∀ x : Int, eqW (.int x) (.int 0) S = .ok (.bl (x == 0)) S := fun x => by simp [eqW, deref, W.okD, W.eqv, DEEP]
    have e2 : eqW (.int 2) (.int 2) S = .ok (.bl true) S := by simp [eqW, deref, W.okD, W.eqv, DEEP]
    have hd : dueL ls i = [.tup [.str "no", .str (wordOf ls)], .tup [.str "no", .str (wordOf ls)]] := if_neg q
    rw [hd]
    simp only [runBody, law_due_sv, sSeq, sAsg, hS, hA, hB, Res.toS, HW.gName, List.length_cons, List.length_nil, if_true, List.map_cons, List.map_nil, List.cons_append, List.nil_append, List.replicate, List.set]
    clear hS hA hB k1 k2 k1' k2' le1 le2 z1 z2 y1 y2 hen i1
    by_cases h2 : ls.length = 2
    · obtain ⟨a, b, rfl⟩ : ∃ a b, ls = [a, b] := by
        match ls, h2 with
        | [a, b], _ => exact ⟨a, b, rfl⟩
      have w2 : wsum 0 [a, b] = b := by simp only [wsum]; omega
      have s2 : ([a, b] : List Int).sum = a + b := by simp only [List.sum_cons, List.sum_nil]; omega
      have ha := d.ge a (by simp)
      have za : a = 0 := by
        apply Classical.byContradiction
        intro z
        exact q (by rw [w2, s2]; omega)
      subst za
      have hw : wordOf [0, b] = "still" := by unfold wordOf; rw [if_neg q, if_neg (by rw [w2, s2]; omega), if_pos (show [0, b].length = 2 from rfl)]
      rw [hw]
      rw [w2, s2]
      simp [sIf, tVal, tAnd, eOp, eVar, ltW, gtW, cmpI, Res.bind, Res.toS, sSeq, sAsg, eLst, aCons, aNil, eC, LIM, HW.gName, sRet, eIf, eCall, lenW, seqT, e2, ixW, HW.atI, HW.ixN, e0, eTup, sSkip]
    · by_cases hr : ls.sum < wsum 0 ls
      · have hw : wordOf ls = "runs" := by unfold wordOf; rw [if_neg q, if_pos hr]
        rw [hw]
        simp [sIf, tVal, tAnd, eOp, eVar, ltW, gtW, cmpI, Res.bind, Res.toS, sSeq, sAsg, eLst, aCons, aNil, eC, LIM, HW.gName, sRet, eIf, eCall, lenW, seqT, eL, h2, q, hr, eTup, sSkip]
      · have hw : wordOf ls = "swings" := by unfold wordOf; rw [if_neg q, if_neg hr, if_neg h2]
        rw [hw]
        simp [sIf, tVal, tAnd, eOp, eVar, ltW, gtW, cmpI, Res.bind, Res.toS, sSeq, sAsg, eLst, aCons, aNil, eC, LIM, HW.gName, sRet, eIf, eCall, lenW, seqT, eL, h2, q, hr, eTup, sSkip]

end K59
end HW
namespace HW
open PySem L2
open PyProof.Rows hiding St
namespace K59
/-! ### the shown texts -/
theorem intD {a : Int} (h : a.natAbs < 10 ^ 12) : (PyData.int a).showable = true ∧ (PyData.int a).leavesShort 13 = true ∧ (PyData.int a).weight ≤ 60 := by
  have hl : a.natAbs.log2 < 40 := log_lt (i := a) (by omega) (by decide)
  refine ⟨?_, ?_, ?_⟩
  · simp only [PyData.showable, decide_eq_true_eq]; omega
  · simp only [PyData.leavesShort, decide_eq_true_eq]; exact PyData.shown_int_le h
  · simp only [PyData.weight]; split <;> omega
/-- an item of data that is small -/
structure SmD (d : PyData) : Prop where
  sh : d.showable = true
  le : d.leavesShort 13 = true
  we : d.weight ≤ 300
theorem smD_told {x : Str} {a b : Int} (hx : (x.cps.toList.all fun c => decide (c < 16 ^ 8)) = true) (hs : x.cps.size ≤ 20) (ha : a.natAbs < 10 ^ 12) (hb : b.natAbs < 10 ^ 12) : SmD (.tuple [.str x, .tuple [.int a, .int b]]) := by
  obtain ⟨a1, a2, a3⟩ := intD ha
  obtain ⟨b1, b2, b3⟩ := intD hb
  refine ⟨?_, ?_, ?_⟩
  · simp [PyData.showable, PyData.showableAll] at a1 b1 ⊢; exact ⟨a1, b1⟩
  · simp only [PyData.leavesShort, PyData.leavesShortAll, Bool.and_true, Bool.and_eq_true] at a2 b2 ⊢; exact ⟨hx, a2, b2⟩
  · simp only [PyData.weight, PyData.weightAll] at a3 b3 ⊢; omega
theorem smD_no {x y : Str} (hx : (x.cps.toList.all fun c => decide (c < 16 ^ 8)) = true) (hs : x.cps.size ≤ 20) (hy : (y.cps.toList.all fun c => decide (c < 16 ^ 8)) = true) (hs2 : y.cps.size ≤ 20) : SmD (.tuple [.str x, .str y]) := by
  refine ⟨?_, ?_, ?_⟩
  · simp [PyData.showable, PyData.showableAll]
  · simp only [PyData.leavesShort, PyData.leavesShortAll, Bool.and_true, Bool.and_eq_true]; exact ⟨hx, hy⟩
  · simp only [PyData.weight, PyData.weightAll]; omega
theorem shown2 {u v : W} {S : Store} (h1 : u.okD 39 = true) (h2 : v.okD 39 = true) (d1 : SmD u.data) (d2 : SmD v.data) : ∃ z, shownW (.lst [u, v]) S = some z := by
  have e : deref (.lst [u, v]) S = .lst [u, v] := rfl
  have o : (W.lst [u, v]).okD DEEP = true := by
    show ([u, v].all (W.okD 39)) = true
    simp [h1, h2]
  have sh : (W.lst [u, v]).data.showable = true := by
    simp only [W.data, W.dataL, PyData.showable, PyData.showableAll, d1.sh, d2.sh, Bool.and_self]
  have le : (W.lst [u, v]).data.leavesShort 13 = true := by
    simp only [W.data, W.dataL, PyData.leavesShort, PyData.leavesShortAll, d1.le, d2.le, Bool.and_self]
  have we : (W.lst [u, v]).data.weight ≤ 602 := by
    have := d1.we; have := d2.we
    simp only [W.data, W.dataL, PyData.weight, PyData.weightAll]; omega
  have len := PyData.shown_le 13 (by decide) _ le
  refine ⟨(W.lst [u, v]).data.shown, ?_⟩
  unfold shownW
  rw [e, if_pos ⟨o, sh, by unfold LIM; omega⟩]
theorem wordOf_small (ls : List Int) : ((wordOf ls).cps.toList.all fun c => decide (c < 16 ^ 8)) = true ∧ (wordOf ls).cps.size ≤ 20 := by
  unfold wordOf
  split
  · decide +kernel
  · split
    · decide +kernel
    · split <;> decide +kernel
theorem due_shown {ls : List Int} {i : Int} {S : Store} (d : Dom ls) (h0 : 0 ≤ i) (h1 : i ≤ 16) : ∃ z, shownW (.lst (dueL ls i)) S = some z := by
  have n := d.nums
  have s0 := n.s0; have s1 := n.s1; have w0 := n.w0; have w1 := n.w1; have q0 := n.q0; have q1 := n.q1
  unfold dueL
  split
  · rename_i q
    have m0 : 0 ≤ i * ls.sum := Int.mul_nonneg h0 (by omega)
    have m1 : i * ls.sum ≤ 16 * 2000 := Int.mul_le_mul h1 s1 (by omega) (by decide)
    have a1 := nu_le (t := i * ls.sum) (b := ls.sum - wsum 0 ls) (by omega)
    have a2 := de_le (t := i * ls.sum) (b := ls.sum - wsum 0 ls) (by omega)
    have a3 := de_pos (t := i * ls.sum) (b := ls.sum - wsum 0 ls) (by omega)
    have b1 := nu_le (t := qsum 0 ls - wsum 0 ls) (b := 2 * (ls.sum - wsum 0 ls)) (by omega)
    have b2 := de_le (t := qsum 0 ls - wsum 0 ls) (b := 2 * (ls.sum - wsum 0 ls)) (by omega)
    have b3 := de_pos (t := qsum 0 ls - wsum 0 ls) (b := 2 * (ls.sum - wsum 0 ls)) (by omega)
    rw [fracP_eq, fracP_eq]
    generalize nu (i * ls.sum) (ls.sum - wsum 0 ls) = A at *
    generalize de (i * ls.sum) (ls.sum - wsum 0 ls) = B at *
    generalize nu (qsum 0 ls - wsum 0 ls) (2 * (ls.sum - wsum 0 ls)) = C at *
    generalize de (qsum 0 ls - wsum 0 ls) (2 * (ls.sum - wsum 0 ls)) = E at *
    have cx : (("told" : Str).cps.toList.all fun c => decide (c < 16 ^ 8)) = true := by decide +kernel
    have cy : ("told" : Str).cps.size ≤ 20 := by decide +kernel
    have ok : ∀ A B : Int, (W.tup [.str "told", .tup [.int A, .int B]]).okD 39 = true := fun A B => by
      show ([W.str "told", .tup [.int A, .int B]].all (W.okD 38)) = true
      have e1 : okS ("told" : Str) = true := by decide +kernel
      have e2 : (W.tup [.int A, .int B]).okD 38 = true := by
        show ([W.int A, .int B].all (W.okD 37)) = true
        simp [W.okD]
      simp [W.okD, e1] at e2 ⊢
      try exact e2
    exact shown2 (ok A B) (ok C E) (smD_told cx cy (by omega) (by omega)) (smD_told cx cy (by omega) (by omega))
  · have cx : (("no" : Str).cps.toList.all fun c => decide (c < 16 ^ 8)) = true := by decide +kernel
    have cy : ("no" : Str).cps.size ≤ 20 := by decide +kernel
    obtain ⟨z1, z2⟩ := wordOf_small ls
    have ok : (W.tup [.str "no", .str (wordOf ls)]).okD 39 = true := by
      show ([W.str "no", .str (wordOf ls)].all (W.okD 38)) = true
      have e1 : okS ("no" : Str) = true := by decide +kernel
      simp [W.okD, e1, wordOf_ok]
    exact shown2 ok ok (smD_no cx cy z1 z2) (smD_no cx cy z1 z2)
/-! ### a flow is right -/
noncomputable def law_right_fv : Fv := onFlowI fun _ _ S => .ok (.bl true) S
theorem told_ok {w : W} {S : Store} : toldR "told" (isa59 true) su59 4 (.ok w S) = .ok (.tup [.str "told", w]) S := rfl
theorem told_no {x : Str} {S : Store} : toldR "told" (isa59 true) su59 4 (.exn "NoRest" [("word", .str x)] S) = .ok (.tup [.str "no", .str x]) S := by
  simp [toldR, isa59, su59, sSeqU, sIfU, eIs, eFld, kn59, List.lookup, runBody, sSeq, sAsg, sPar, sIf, sRet, sRetN, sExpr, sSkip, sPut, sRaise, eOp, eUn, eVar, eC, eTup, eLst, eLstS, eFn, eCall, eCut, eIf, eAnd, eOr, eNot, eMt, eFz, tVal, tAnd, tOr, tNot, tYes, aCons, aNil, oNone, oSome, HW.gName, HW.gTup, HW.gList, Res.bind, Res.toS, ltW, leW, gtW, geW, cmpI, addW, subW, mulW, fdivW, modW, powW, absW, intW, lenW, seqT, seqR, seqL, newL, newT, newLS, LIM]
theorem empty_eq {ls : List Int} {i : Int} {S : Store} (d : Dom ls) (h0 : 0 ≤ i) (h1 : i ≤ 16) : empty_mean_fv [.tup (ls.map W.int), .int i] S = if wsum 0 ls < ls.sum then .ok (fracP (i * ls.sum) (ls.sum - wsum 0 ls)) S else .exn "NoRest" [("word", .str (wordOf ls))] S := onFlowI_eq d h0 h1
theorem standing_eq {ls : List Int} {S : Store} (d : Dom ls) : mean_standing_fv [.tup (ls.map W.int)] S = if wsum 0 ls < ls.sum then .ok (fracP (qsum 0 ls - wsum 0 ls) (2 * (ls.sum - wsum 0 ls))) S else .exn "NoRest" [("word", .str (wordOf ls))] S := onFlow_eq d
theorem due_eq {ls : List Int} {i : Int} {S : Store} (d : Dom ls) (h0 : 0 ≤ i) (h1 : i ≤ 16) : law_due_fv [.tup (ls.map W.int), .int i] S = .ok (.lst (dueL ls i)) S := onFlowI_eq d h0 h1
theorem Impl.trim {f f' : Fv} (h : ∀ ws S, f' ws S = .bad ∨ ∃ w J, f ws S = .ok w (S ++ J) ∧ f' ws S = .ok w S ∧ w.clo 0 = true) (hS : ∀ ws S, f' ws S ≠ .bad → closedS S = true) : Impl f f' := fun ws S => by
  rcases h ws S with e | ⟨w, J, e1, e2, e3⟩
  · unfold Tells; rw [e]; trivial
  · have hc := hS ws S (by rw [e2]; exact fun z => nomatch z)
    unfold Tells
    rw [e2]
    exact ⟨J, e1, .inr ⟨Nat.le_refl _, W.clo_mono (Nat.zero_le _) w e3, hc⟩⟩
open Classical in
/-- the same, told where the store is closed -/
noncomputable def closedFv (f : Fv) : Fv := fun ws S => if closedS S = true then f ws S else .bad
theorem right_run {ls : List Int} {i : Int} {S : Store} (d : Dom ls) (h0 : 0 ≤ i) (h1 : i ≤ 16) : runBody 2 3 (law_right_sv empty_mean_fv mean_standing_fv law_due_fv) [.tup (ls.map W.int), .int i] S = .ok (.bl true) (S ++ [.lst (dueL ls i)]) := by
  obtain ⟨z, hz⟩ := due_shown (S := S ++ [.lst (dueL ls i)]) d h0 h1
  have hz2 : shownW (.ref S.length) (S ++ [.lst (dueL ls i)]) = some z := by
    have e : deref (.ref S.length) (S ++ [O.lst (dueL ls i)]) = deref (.lst (dueL ls i)) (S ++ [.lst (dueL ls i)]) := by
      show (match (S ++ [O.lst (dueL ls i)])[S.length]? with | some (.lst xs) => W.lst xs | _ => W.ref S.length) = _
      simp; rfl
    unfold shownW at hz ⊢
    rw [e]; exact hz
  have ap : ∀ u v : W, appW (.ref S.length) [v] (S ++ [.lst [u]]) = .ok .non (S ++ [.lst [u, v]]) := fun u v => by
    simp [appW, LIM]
  have isl : ∀ u : W, isListB (.ref S.length) (S ++ [.lst [u]]) = true := fun u => by simp [isListB, seqL]
  by_cases q : wsum 0 ls < ls.sum
  · have e1 := fun S' => empty_eq (S := S') d h0 h1
    have e2 := fun S' => standing_eq (S := S') d
    simp only [q, if_true] at e1 e2
    have hd : dueL ls i = [.tup [.str "told", fracP (i * ls.sum) (ls.sum - wsum 0 ls)], .tup [.str "told", fracP (qsum 0 ls - wsum 0 ls) (2 * (ls.sum - wsum 0 ls))]] := if_pos q
    rw [hd] at hz hz2 ⊢
    have e3 := fun S' => due_eq (S := S') d h0 h1
    simp only [hd] at e3
    simp [runBody, sSeq, sAsg, sPar, sIf, sRet, sRetN, sExpr, sSkip, sPut, sRaise, eOp, eUn, eVar, eC, eTup, eLst, eLstS, eFn, eCall, eCut, eIf, eAnd, eOr, eNot, eMt, eFz, tVal, tAnd, tOr, tNot, tYes, aCons, aNil, oNone, oSome, HW.gName, HW.gTup, HW.gList, Res.bind, Res.toS, ltW, leW, gtW, geW, cmpI, addW, subW, mulW, fdivW, modW, powW, absW, intW, lenW, seqT, seqR, seqL, newL, newT, newLS, LIM, law_right_sv, eTold, told_ok, e1, e2, e3, ap, isl, reprW, hz, hz2, eqSW]
  · have e1 := fun S' => empty_eq (S := S') d h0 h1
    have e2 := fun S' => standing_eq (S := S') d
    simp only [q, if_false] at e1 e2
    have hd : dueL ls i = [.tup [.str "no", .str (wordOf ls)], .tup [.str "no", .str (wordOf ls)]] := if_neg q
    rw [hd] at hz hz2 ⊢
    have e3 := fun S' => due_eq (S := S') d h0 h1
    simp only [hd] at e3
    simp [runBody, sSeq, sAsg, sPar, sIf, sRet, sRetN, sExpr, sSkip, sPut, sRaise, eOp, eUn, eVar, eC, eTup, eLst, eLstS, eFn, eCall, eCut, eIf, eAnd, eOr, eNot, eMt, eFz, tVal, tAnd, tOr, tNot, tYes, aCons, aNil, oNone, oSome, HW.gName, HW.gTup, HW.gList, Res.bind, Res.toS, ltW, leW, gtW, geW, cmpI, addW, subW, mulW, fdivW, modW, powW, absW, intW, lenW, seqT, seqR, seqL, newL, newT, newLS, LIM, law_right_sv, eTold, told_no, e1, e2, e3, ap, isl, reprW, hz, hz2, eqSW]

end K59
end HW
namespace HW
open PySem L2
open PyProof.Rows hiding St
namespace K59
noncomputable def right_fv : Fv := closedFv law_right_fv
theorem law_right_im : Impl (runBody 2 3 (law_right_sv empty_mean_fv mean_standing_fv law_due_fv)) right_fv := Impl.trim (fun ws S => by
  unfold right_fv closedFv
  by_cases hc : closedS S = true
  · rw [if_pos hc]
    unfold law_right_fv
    by_cases hx : ∃ (ls : List Int) (i : Int), ws = [.tup (ls.map W.int), .int i] ∧ Dom ls ∧ 0 ≤ i ∧ i ≤ 16
    · obtain ⟨ls, i, rfl, d, h0, h1⟩ := hx
      exact .inr ⟨_, _, right_run d h0 h1, onFlowI_eq d h0 h1, rfl⟩
    · left; unfold onFlowI; rw [dif_neg hx]
  · left; rw [if_neg hc]) (fun ws S h => by
  unfold right_fv closedFv at h
  by_cases hc : closedS S = true
  · exact hc
  · rw [if_neg hc] at h; exact absurd rfl h)
theorem right_eq {ls : List Int} {i : Int} {S : Store} (hc : closedS S = true) (d : Dom ls) (h0 : 0 ≤ i) (h1 : i ≤ 16) : right_fv [.tup (ls.map W.int), .int i] S = .ok (.bl true) S := by
  unfold right_fv closedFv
  rw [if_pos hc]
  exact onFlowI_eq d h0 h1
theorem clo_ints (k : Nat) : ∀ ns : List Int, W.cloL k (ns.map W.int) = true
  | [] => rfl
  | n :: ns => by show (true && W.cloL k (ns.map W.int)) = true; rw [clo_ints k ns]; rfl
theorem FeedS.closed {c : Int} {S : Store} (h : FeedS c S) : closedS S = true := by
  obtain ⟨cells, a, l, rfl, _, _⟩ := h
  show ((W.cloL 1 (cells.map W.int) && (true && (true && true))) && true) = true
  rw [clo_ints]; rfl
noncomputable abbrev flowF : Fv := runBody 1 6 (law_flow_sv drawF)
noncomputable abbrev feedF : Fv := runBody 1 1 law_feed_sv
abbrev loopB (fv_law_flow fv_law_draw fv_law_right : Fv) : Sv := (sSeq (sAsg (eFn fv_law_flow (aCons (eVar 1) aNil)) (gName 3)) (sSeq (sAsg (eFn fv_law_draw (aCons (eVar 1) (aCons (eC (.int 17)) aNil))) (gName 4)) (sIf (tOr (tNot (tVal (eFn fv_law_right (aCons (eVar 3) (aCons (eVar 4) aNil))))) (tOr (tNot (tVal (eFn fv_law_right (aCons (eVar 3) (aCons (eC (.int 0)) aNil))))) (tNot (tVal (eFn fv_law_right (aCons (eVar 3) (aCons (eVar 4) aNil))))))) (sRet (eC (.bl false))) sSkip)))
theorem loop_ok (scr : Option W) : ∀ (ws : List W) (c : Int) (x y z : Option W) (S : Store), FeedS c S → c + 25 * ws.length ≤ 900 →
    ∃ (x' y' z' : Option W) (S' : Store), forL none (gName 2) (loopB flowF drawF right_fv) ws [scr, some (.ref 0), x, y, z] S = .nx [scr, some (.ref 0), x', y', z'] S' ∧ FeedS (c + 25 * ws.length) S'
  | [], c, x, y, z, S, hS, _ => by
    refine ⟨x, y, z, S, ?_, by simpa using hS⟩
    unfold forL
    rw [if_pos (show gdOk none S from trivial)]
  | w :: ws, c, x, y, z, S, hS, hc => by
    simp only [List.length_cons, Int.natCast_add, Int.natCast_one] at hc ⊢
    obtain ⟨ls, S1, e1, d, hS1⟩ := flow_spec hS (by omega)
    obtain ⟨v, S2, e2, v0, v1, hS2⟩ := draw_spec (m := 17) hS1 (by omega) (by decide) (by decide)
    have hS2' : FeedS (c + 25) S2 := by have : c + 24 + 1 = c + 25 := by omega
                                        rw [← this]; exact hS2
    obtain ⟨x', y', z', S3, e3, hS3⟩ := loop_ok scr ws (c + 25) (some w) (some (.tup (ls.map W.int))) (some (.int v)) S2 hS2' (by omega)
    have r1 := right_eq (i := v) hS2.closed d v0 (by omega)
    have r2 := right_eq (i := 0) hS2.closed d (by decide) (by decide)
    refine ⟨x', y', z', S3, ?_, by have : c + 25 * ((ws.length : Int) + 1) = c + 25 + 25 * (ws.length : Int) := by omega
                                   rw [this]; exact hS3⟩
    unfold forL
    rw [if_pos (show gdOk none S from trivial)]
    have hb : loopB flowF drawF right_fv [scr, some (.ref 0), some w, y, z] S = .nx [scr, some (.ref 0), some w, some (.tup (ls.map W.int)), some (.int v)] S2 := by
      simp [loopB, runBody, sSeq, sAsg, sPar, sIf, sRet, sRetN, sExpr, sSkip, sPut, sRaise, eOp, eUn, eVar, eC, eTup, eLst, eLstS, eFn, eCall, eCut, eIf, eAnd, eOr, eNot, eMt, eFz, tVal, tAnd, tOr, tNot, tYes, aCons, aNil, oNone, oSome, HW.gName, HW.gTup, HW.gList, Res.bind, Res.toS, ltW, leW, gtW, geW, cmpI, addW, subW, mulW, fdivW, modW, powW, absW, intW, lenW, seqT, seqR, seqL, newL, newT, newLS, LIM, e1, e2, r1, r2]
    simp only [HW.gName, List.set, hb]
    exact e3
theorem cut_map (ns : List Int) (a b : Option Int) : cutL (ns.map W.int) a b = (cutL ns a b).map W.int := by
  unfold cutL
  rw [List.map_take, List.map_drop, List.length_map]
theorem law_ok (ns : List Int) : ∃ S', runBody 1 5 (law_sv feedF flowF drawF right_fv) [.xls (ns.map W.int)] [] = .ok (.bl true) S' := by
  have hf : feedF [.xls (ns.map W.int)] [] = .ok (.ref 0) [.lst [.lst ((cutL ns none (some 63)).map W.int), .int 0, .int 0]] := by
    simp [runBody, sSeq, sAsg, sPar, sIf, sRet, sRetN, sExpr, sSkip, sPut, sRaise, eOp, eUn, eVar, eC, eTup, eLst, eLstS, eFn, eCall, eCut, eIf, eAnd, eOr, eNot, eMt, eFz, tVal, tAnd, tOr, tNot, tYes, aCons, aNil, oNone, oSome, HW.gName, HW.gTup, HW.gList, Res.bind, Res.toS, ltW, leW, gtW, geW, cmpI, addW, subW, mulW, fdivW, modW, powW, absW, intW, lenW, seqT, seqR, seqL, newL, newT, newLS, LIM, law_feed_sv, cutW, cut_map]
  have hS : FeedS 0 [.lst [.lst ((cutL ns none (some 63)).map W.int), .int 0, .int 0]] := ⟨_, 0, 0, rfl, by decide, by decide⟩
  obtain ⟨x, y, z, S1, e1, hS1⟩ := loop_ok (some (.xls (ns.map W.int))) (rangeL 0 6) 0 none none none _ hS (by rw [rangeL_length]; decide)
  have c1 := hS1.closed
  have r1 := right_eq (ls := [1]) (i := 16) c1 ⟨by decide, by decide, by decide⟩ (by decide) (by decide)
  have r2 := right_eq (ls := [0, 1]) (i := 3) c1 ⟨by decide, by decide, by decide⟩ (by decide) (by decide)
  have r3 := right_eq (ls := [1, 0, 1]) (i := 0) c1 ⟨by decide, by decide, by decide⟩ (by decide) (by decide)
  have r4 := right_eq (ls := [11, 0, 1]) (i := 1) c1 ⟨by decide, by decide, by decide⟩ (by decide) (by decide)
  refine ⟨S1, ?_⟩
  have lp : sFor (iRange1 (aCons (eC (.int 6)) aNil)) (gName 2) (loopB flowF drawF right_fv) [some (.xls (ns.map W.int)), some (.ref 0), none, none, none] [.lst [.lst ((cutL ns none (some 63)).map W.int), .int 0, .int 0]] = .nx [some (.xls (ns.map W.int)), some (.ref 0), x, y, z] S1 := by
    have hr : iRange1 (aCons (eC (.int 6)) aNil) [some (.xls (ns.map W.int)), some (.ref 0), none, none, none] [.lst [.lst ((cutL ns none (some 63)).map W.int), .int 0, .int 0]] = .ok (rangeL 0 6, none) [.lst [.lst ((cutL ns none (some 63)).map W.int), .int 0, .int 0]] := rfl
    unfold sFor
    rw [hr]
    exact e1
  have hseq : law_sv feedF flowF drawF right_fv = (sSeq (sAsg (eFn feedF (aCons (eVar 0) aNil)) (gName 1)) (sSeq (sFor (iRange1 (aCons (eC (.int 6)) aNil)) (gName 2) (loopB flowF drawF right_fv)) (sRet (eAnd (eFn right_fv (aCons (eTup (aCons (eC (.int 1)) aNil)) (aCons (eC (.int 16)) aNil))) (eAnd (eFn right_fv (aCons (eTup (aCons (eC (.int 0)) (aCons (eC (.int 1)) aNil))) (aCons (eC (.int 3)) aNil))) (eAnd (eFn right_fv (aCons (eTup (aCons (eC (.int 1)) (aCons (eC (.int 0)) (aCons (eC (.int 1)) aNil)))) (aCons (eC (.int 0)) aNil))) (eFn right_fv (aCons (eTup (aCons (eC (.int 11)) (aCons (eC (.int 0)) (aCons (eC (.int 1)) aNil)))) (aCons (eC (.int 1)) aNil))))))))) := rfl
  rw [hseq]
  generalize hlp : sFor (iRange1 (aCons (eC (.int 6)) aNil)) (gName 2) (loopB flowF drawF right_fv) = LP at *
  generalize hff : feedF = FF at *
  simp only [List.map_cons, List.map_nil] at r1 r2 r3 r4
  simp [runBody, sSeq, sAsg, sPar, sIf, sRet, sRetN, sExpr, sSkip, sPut, sRaise, eOp, eUn, eVar, eC, eTup, eLst, eLstS, eFn, eCall, eCut, eIf, eAnd, eOr, eNot, eMt, eFz, tVal, tAnd, tOr, tNot, tYes, aCons, aNil, oNone, oSome, HW.gName, HW.gTup, HW.gList, Res.bind, Res.toS, ltW, leW, gtW, geW, cmpI, addW, subW, mulW, fdivW, modW, powW, absW, intW, lenW, seqT, seqR, seqL, newL, newT, newLS, LIM, hf, lp, r1, r2, r3, r4]

end K59
end HW
namespace HW
open PySem L2
open PyProof.Rows hiding St
namespace K59
/-! ### the exception's __init__ -/
section
variable {T : Top} {fI : Addr} {fd : FuncData} {st : Stmt} {qual W m f : Str} {C CW : Addr} {p1 p2 p3 p4 p5 p6 p7 p8 p9 p10 : Pos} {j : Nat}
theorem init1x_ok (F : Fun T.K "__init__" qual st fI fd) (S : FnScope ["self", f] ["self", f] (defScope st)) (hW : T.mg W = some (.ref CW)) (cl : ClsInit T.K CW) (hg : (defScope st).names.lookup W = some .globalImplicit)
    (hb : defBody st = [.Expr (.Call (.Attribute (.Name W p1) "__init__" p2) [.Name "self" p3, .Constant (.str m) j p4] [] p5) p6, .Assign [.Attribute (.Name "self" p7) f p8] (.Name f p9) p10])
    (hc : ∀ (n : Addr) (cdv : Value), ∃ pl : Sem Bool, eval (.Call (.Attribute (.Name W p1) "__init__" p2) [.Name "self" p3, .Constant (.str m) j p4] [] p5) (envOfC qual (defScope st) n fI cdv) = (do
      let ov ← eval (.Name W p1) (envOfC qual (defScope st) n fI cdv)
      standAt p2.atName
      let (f, first) ← holding [ov] (getMethod ov "__init__" pl)
      callWith p5 f first (backTo p5 (starEach [.Name "self" p3, .Constant (.str m) j p4] (envOfC qual (defScope st) n fI cdv))) (backToKw p5 (keywordEach [] (envOfC qual (defScope st) n fI cdv)))))
    (l1 : (defScope st).names.lookup ("self" : Str) = some .local) (l2 : (defScope st).names.lookup f = some .local) (hdW : (W == ("__debug__" : Str)) = false := by decide) (hdf : (f == ("__debug__" : Str)) = false := by decide) (hcf : (f == ("__classdict__" : Str)) = false := by decide) :
    FnOk T.P T.w T.K T.mg T.base CX0 1 fI fd ["self", f] (spI T.K C [f]) := by
  refine F.ok S (fun vs H Q E ⟨a, ws, e1, e2, _⟩ => by rw [e1, List.length_cons, e2]; rfl) fun cdv A outer s H vs Q E hr h => ?_
  rw [hb]
  obtain ⟨pl, hc'⟩ := hc s.heap.objs.size cdv
  refine ⟨_, pss_cons (ps_expr (pe_winit (pl := pl) hg hW cl (pa_cons (pv 0 rfl (.inl l1)) (pa_cons pe_str pa_nil)) hc' rfl rfl hdW)) (pss_one (ps_ost (pv 0 rfl (.inl l1)) (pv 1 rfl (.inl l2) hdf hcf))), ?_⟩
  obtain ⟨a, ws, rfl, hl, TC, hn, ha, k⟩ := h
  match ws, hl with
  | [y], _ =>
    refine ⟨_, rfl, a, C, _, rfl, by simp, TC, ha, ?_⟩
    refine ⟨y, rfl, _, rfl, a, C, rfl, TC, hn f (by simp), .inl ⟨ha, fun dx h1 h2 => k dx h1 h2⟩⟩
end
/-! ### all together -/
abbrev ini_st : Stmt := inClass (top 4) 0
theorem ini_sc : FnScope ["self", "word"] ["self", "word"] (defScope ini_st) := ⟨rfl, rfl, rfl, by decide +kernel, rfl, by decide +kernel, by decide +kernel⟩
theorem all_mk {l : PySem.W.OpenLaw} {w : World} {K : PySem.W.Frag} {h : Heap} {mg : Str → Option Value} {fa : Addr} (X : K.In h) (G : h.Ns mainGlobals mg) (hfa : mg "law" = some (.ref fa))
    {f0 : Addr} {od0 an0 : Option Addr} {sl0 : Array (Option Value)} {oc0 kV0 dc0 pm0 cd0 ct0 : Value}
    {f1 : Addr} {od1 an1 : Option Addr} {sl1 : Array (Option Value)} {oc1 kV1 dc1 pm1 cd1 ct1 : Value}
    {f2 : Addr} {od2 an2 : Option Addr} {sl2 : Array (Option Value)} {oc2 kV2 dc2 pm2 cd2 ct2 : Value}
    {f3 : Addr} {od3 an3 : Option Addr} {sl3 : Array (Option Value)} {oc3 kV3 dc3 pm3 cd3 ct3 : Value}
    {f4 : Addr} {od4 an4 : Option Addr} {sl4 : Array (Option Value)} {oc4 kV4 dc4 pm4 cd4 ct4 : Value}
    {f5 : Addr} {od5 an5 : Option Addr} {sl5 : Array (Option Value)} {oc5 kV5 dc5 pm5 cd5 ct5 : Value}
    {f6 : Addr} {od6 an6 : Option Addr} {sl6 : Array (Option Value)} {oc6 kV6 dc6 pm6 cd6 ct6 : Value}
    {f7 : Addr} {od7 an7 : Option Addr} {sl7 : Array (Option Value)} {oc7 kV7 dc7 pm7 cd7 ct7 : Value}
    {f8 : Addr} {od8 an8 : Option Addr} {sl8 : Array (Option Value)} {oc8 kV8 dc8 pm8 cd8 ct8 : Value}
    {f9 : Addr} {od9 an9 : Option Addr} {sl9 : Array (Option Value)} {oc9 kV9 dc9 pm9 cd9 ct9 : Value}
    {f10 : Addr} {od10 an10 : Option Addr} {sl10 : Array (Option Value)} {oc10 kV10 dc10 pm10 cd10 ct10 : Value}
    {f11 : Addr} {od11 an11 : Option Addr} {sl11 : Array (Option Value)} {oc11 kV11 dc11 pm11 cd11 ct11 : Value}
    {f12 : Addr} {od12 an12 : Option Addr} {sl12 : Array (Option Value)} {oc12 kV12 dc12 pm12 cd12 ct12 : Value}
    {f13 : Addr} {od13 an13 : Option Addr} {sl13 : Array (Option Value)} {oc13 kV13 dc13 pm13 cd13 ct13 : Value}
    {f14 : Addr} {od14 an14 : Option Addr} {sl14 : Array (Option Value)} {oc14 kV14 dc14 pm14 cd14 ct14 : Value}
    {f15 : Addr} {od15 an15 : Option Addr} {sl15 : Array (Option Value)} {oc15 kV15 dc15 pm15 cd15 ct15 : Value}
    {f16 : Addr} {od16 an16 : Option Addr} {sl16 : Array (Option Value)} {oc16 kV16 dc16 pm16 cd16 ct16 : Value}
    {f17 : Addr} {od17 an17 : Option Addr} {sl17 : Array (Option Value)} {oc17 kV17 dc17 pm17 cd17 ct17 : Value}
    {f18 : Addr} {od18 an18 : Option Addr} {sl18 : Array (Option Value)} {oc18 kV18 dc18 pm18 cd18 ct18 : Value}
    {f19 : Addr} {od19 an19 : Option Addr} {sl19 : Array (Option Value)} {oc19 kV19 dc19 pm19 cd19 ct19 : Value}
    {f20 : Addr} {od20 an20 : Option Addr} {sl20 : Array (Option Value)} {oc20 kV20 dc20 pm20  ct20 : Value}
    {f21 : Addr} {od21 an21 : Option Addr} {sl21 : Array (Option Value)} {oc21 kV21 dc21 pm21 cd21 ct21 : Value}
    {cR pR : Addr}
    {cW C fI : Addr} {odI anI : Option Addr} {slI : Array (Option Value)} {ocI kVI dcI pmI cdI ctI : Value}
    {nm q : Str} {Nn : Addr} {bs bm : List Value} {sn : List Str} {sub : List Value} {ab : Bool} {col : Option Bool} {dd : Option Addr} {m0 m1 m2 m3 m5 : Option Value}
    {o0 o1 o2 o3 o4 o5 o6 : Addr}
    {aO : Addr} {t1 t2 : Tok} {no : Nat} {slO : Array (Option Value)}
    (a0 : PySem.W.nsIn K mainGlobals "common_divisor" = some (some (.ref f0)))
    (l0 : K.lookup f0 = some ⟨oc0, od0, .func (PySem.W.fnOf "common_divisor" "common_divisor" (defArgs common_divisor_st) (defBody common_divisor_st) (defScope common_divisor_st) .none kV0 dc0 pm0 an0 cd0 ct0), sl0⟩)
    (c0 : PySem.W.codeIn K cd0 "common_divisor" = true)
    (k0 : PySem.W.keepIn K (.ref f0) = true)
    (a1 : PySem.W.nsIn K mainGlobals "fraction" = some (some (.ref f1)))
    (l1 : K.lookup f1 = some ⟨oc1, od1, .func (PySem.W.fnOf "fraction" "fraction" (defArgs fraction_st) (defBody fraction_st) (defScope fraction_st) .none kV1 dc1 pm1 an1 cd1 ct1), sl1⟩)
    (c1 : PySem.W.codeIn K cd1 "fraction" = true)
    (k1 : PySem.W.keepIn K (.ref f1) = true)
    (a2 : PySem.W.nsIn K mainGlobals "minus" = some (some (.ref f2)))
    (l2 : K.lookup f2 = some ⟨oc2, od2, .func (PySem.W.fnOf "minus" "minus" (defArgs minus_st) (defBody minus_st) (defScope minus_st) .none kV2 dc2 pm2 an2 cd2 ct2), sl2⟩)
    (c2 : PySem.W.codeIn K cd2 "minus" = true)
    (k2 : PySem.W.keepIn K (.ref f2) = true)
    (a3 : PySem.W.nsIn K mainGlobals "times" = some (some (.ref f3)))
    (l3 : K.lookup f3 = some ⟨oc3, od3, .func (PySem.W.fnOf "times" "times" (defArgs times_st) (defBody times_st) (defScope times_st) .none kV3 dc3 pm3 an3 cd3 ct3), sl3⟩)
    (c3 : PySem.W.codeIn K cd3 "times" = true)
    (k3 : PySem.W.keepIn K (.ref f3) = true)
    (a4 : PySem.W.nsIn K mainGlobals "over" = some (some (.ref f4)))
    (l4 : K.lookup f4 = some ⟨oc4, od4, .func (PySem.W.fnOf "over" "over" (defArgs over_st) (defBody over_st) (defScope over_st) .none kV4 dc4 pm4 an4 cd4 ct4), sl4⟩)
    (c4 : PySem.W.codeIn K cd4 "over" = true)
    (k4 : PySem.W.keepIn K (.ref f4) = true)
    (a5 : PySem.W.nsIn K mainGlobals "less" = some (some (.ref f5)))
    (l5 : K.lookup f5 = some ⟨oc5, od5, .func (PySem.W.fnOf "less" "less" (defArgs less_st) (defBody less_st) (defScope less_st) .none kV5 dc5 pm5 an5 cd5 ct5), sl5⟩)
    (c5 : PySem.W.codeIn K cd5 "less" = true)
    (k5 : PySem.W.keepIn K (.ref f5) = true)
    (a6 : PySem.W.nsIn K mainGlobals "mean_of" = some (some (.ref f6)))
    (l6 : K.lookup f6 = some ⟨oc6, od6, .func (PySem.W.fnOf "mean_of" "mean_of" (defArgs mean_of_st) (defBody mean_of_st) (defScope mean_of_st) .none kV6 dc6 pm6 an6 cd6 ct6), sl6⟩)
    (c6 : PySem.W.codeIn K cd6 "mean_of" = true)
    (k6 : PySem.W.keepIn K (.ref f6) = true)
    (a7 : PySem.W.nsIn K mainGlobals "mean" = some (some (.ref f7)))
    (l7 : K.lookup f7 = some ⟨oc7, od7, .func (PySem.W.fnOf "mean" "mean" (defArgs mean_st) (defBody mean_st) (defScope mean_st) .none kV7 dc7 pm7 an7 cd7 ct7), sl7⟩)
    (c7 : PySem.W.codeIn K cd7 "mean" = true)
    (k7 : PySem.W.keepIn K (.ref f7) = true)
    (a8 : PySem.W.nsIn K mainGlobals "second" = some (some (.ref f8)))
    (l8 : K.lookup f8 = some ⟨oc8, od8, .func (PySem.W.fnOf "second" "second" (defArgs second_st) (defBody second_st) (defScope second_st) .none kV8 dc8 pm8 an8 cd8 ct8), sl8⟩)
    (c8 : PySem.W.codeIn K cd8 "second" = true)
    (k8 : PySem.W.keepIn K (.ref f8) = true)
    (a9 : PySem.W.nsIn K mainGlobals "word_of" = some (some (.ref f9)))
    (l9 : K.lookup f9 = some ⟨oc9, od9, .func (PySem.W.fnOf "word_of" "word_of" (defArgs word_of_st) (defBody word_of_st) (defScope word_of_st) .none kV9 dc9 pm9 an9 cd9 ct9), sl9⟩)
    (c9 : PySem.W.codeIn K cd9 "word_of" = true)
    (k9 : PySem.W.keepIn K (.ref f9) = true)
    (a10 : PySem.W.nsIn K mainGlobals "ask_rest" = some (some (.ref f10)))
    (l10 : K.lookup f10 = some ⟨oc10, od10, .func (PySem.W.fnOf "ask_rest" "ask_rest" (defArgs ask_rest_st) (defBody ask_rest_st) (defScope ask_rest_st) .none kV10 dc10 pm10 an10 cd10 ct10), sl10⟩)
    (c10 : PySem.W.codeIn K cd10 "ask_rest" = true)
    (k10 : PySem.W.keepIn K (.ref f10) = true)
    (a11 : PySem.W.nsIn K mainGlobals "lacking" = some (some (.ref f11)))
    (l11 : K.lookup f11 = some ⟨oc11, od11, .func (PySem.W.fnOf "lacking" "lacking" (defArgs lacking_st) (defBody lacking_st) (defScope lacking_st) .none kV11 dc11 pm11 an11 cd11 ct11), sl11⟩)
    (c11 : PySem.W.codeIn K cd11 "lacking" = true)
    (k11 : PySem.W.keepIn K (.ref f11) = true)
    (a12 : PySem.W.nsIn K mainGlobals "empty_mean" = some (some (.ref f12)))
    (l12 : K.lookup f12 = some ⟨oc12, od12, .func (PySem.W.fnOf "empty_mean" "empty_mean" (defArgs empty_mean_st) (defBody empty_mean_st) (defScope empty_mean_st) .none kV12 dc12 pm12 an12 cd12 ct12), sl12⟩)
    (c12 : PySem.W.codeIn K cd12 "empty_mean" = true)
    (k12 : PySem.W.keepIn K (.ref f12) = true)
    (a13 : PySem.W.nsIn K mainGlobals "mean_standing" = some (some (.ref f13)))
    (l13 : K.lookup f13 = some ⟨oc13, od13, .func (PySem.W.fnOf "mean_standing" "mean_standing" (defArgs mean_standing_st) (defBody mean_standing_st) (defScope mean_standing_st) .none kV13 dc13 pm13 an13 cd13 ct13), sl13⟩)
    (c13 : PySem.W.codeIn K cd13 "mean_standing" = true)
    (k13 : PySem.W.keepIn K (.ref f13) = true)
    (a14 : PySem.W.nsIn K mainGlobals "_law_feed" = some (some (.ref f14)))
    (l14 : K.lookup f14 = some ⟨oc14, od14, .func (PySem.W.fnOf "_law_feed" "_law_feed" (defArgs law_feed_st) (defBody law_feed_st) (defScope law_feed_st) .none kV14 dc14 pm14 an14 cd14 ct14), sl14⟩)
    (c14 : PySem.W.codeIn K cd14 "_law_feed" = true)
    (k14 : PySem.W.keepIn K (.ref f14) = true)
    (a15 : PySem.W.nsIn K mainGlobals "_law_draw" = some (some (.ref f15)))
    (l15 : K.lookup f15 = some ⟨oc15, od15, .func (PySem.W.fnOf "_law_draw" "_law_draw" (defArgs law_draw_st) (defBody law_draw_st) (defScope law_draw_st) .none kV15 dc15 pm15 an15 cd15 ct15), sl15⟩)
    (c15 : PySem.W.codeIn K cd15 "_law_draw" = true)
    (k15 : PySem.W.keepIn K (.ref f15) = true)
    (a16 : PySem.W.nsIn K mainGlobals "_law_frac" = some (some (.ref f16)))
    (l16 : K.lookup f16 = some ⟨oc16, od16, .func (PySem.W.fnOf "_law_frac" "_law_frac" (defArgs law_frac_st) (defBody law_frac_st) (defScope law_frac_st) .none kV16 dc16 pm16 an16 cd16 ct16), sl16⟩)
    (c16 : PySem.W.codeIn K cd16 "_law_frac" = true)
    (k16 : PySem.W.keepIn K (.ref f16) = true)
    (a17 : PySem.W.nsIn K mainGlobals "_law_flow" = some (some (.ref f17)))
    (l17 : K.lookup f17 = some ⟨oc17, od17, .func (PySem.W.fnOf "_law_flow" "_law_flow" (defArgs law_flow_st) (defBody law_flow_st) (defScope law_flow_st) .none kV17 dc17 pm17 an17 cd17 ct17), sl17⟩)
    (c17 : PySem.W.codeIn K cd17 "_law_flow" = true)
    (k17 : PySem.W.keepIn K (.ref f17) = true)
    (a18 : PySem.W.nsIn K mainGlobals "_law_due" = some (some (.ref f18)))
    (l18 : K.lookup f18 = some ⟨oc18, od18, .func (PySem.W.fnOf "_law_due" "_law_due" (defArgs law_due_st) (defBody law_due_st) (defScope law_due_st) .none kV18 dc18 pm18 an18 cd18 ct18), sl18⟩)
    (c18 : PySem.W.codeIn K cd18 "_law_due" = true)
    (k18 : PySem.W.keepIn K (.ref f18) = true)
    (a19 : PySem.W.nsIn K mainGlobals "_law_told" = some (some (.ref f19)))
    (l19 : K.lookup f19 = some ⟨oc19, od19, .func (PySem.W.fnOf "_law_told" "_law_told" (defArgs told_st) (defBody told_st) (defScope told_st) .none kV19 dc19 pm19 an19 cd19 ct19), sl19⟩)
    (c19 : PySem.W.codeIn K cd19 "_law_told" = true)
    (k19 : PySem.W.keepIn K (.ref f19) = true)
    (a20 : PySem.W.nsIn K mainGlobals "_law_right" = some (some (.ref f20)))
    (l20 : K.lookup f20 = some ⟨oc20, od20, .func (PySem.W.fnOf "_law_right" "_law_right" (defArgs law_right_st) (defBody law_right_st) (defScope law_right_st) .none kV20 dc20 pm20 an20 (.ref cR) ct20), sl20⟩)
    (c20 : PySem.W.codeIn K (.ref cR) "_law_right" = true)
    (k20 : PySem.W.keepIn K (.ref f20) = true)
    (a21 : PySem.W.nsIn K mainGlobals "law" = some (some (.ref f21)))
    (l21 : K.lookup f21 = some ⟨oc21, od21, .func (PySem.W.fnOf "law" "law" (defArgs law_st) (defBody law_st) (defScope law_st) .none kV21 dc21 pm21 an21 cd21 ct21), sl21⟩)
    (c21 : PySem.W.codeIn K cd21 "law" = true)
    (k21 : PySem.W.keepIn K (.ref f21) = true)
    (tR : PySem.W.tabIn K "_law_right" = some (cR, pR))
    (nR : K.lookup pR = none)
    (aW : PySem.W.nsIn K mainGlobals "WaitError" = some (some (.ref cW)))
    (w1 : PySem.W.specialIn K (.ref cW) "__getattribute__" = some (some (.builtin "type.__getattribute__")))
    (w2 : PySem.W.readsIn K cW (.type "type") = true)
    (w3 : PySem.W.findCls K (.ref cW) (.type "type") "__init__" = some (.val (.builtin "ValueError.__init__")))
    (aC : PySem.W.nsIn K mainGlobals "NoRest" = some (some (.ref C)))
    (xC : K.lookup C = some (excClassObj nm q C Nn bs bm true sn sub ab col dd m0 m1 m2 m3 m5 "ValueError.__new__"))
    (w4 : PySem.W.exmOne K (.ref C) (.ref cW) = some true)
    (xb : PySem.HandSPX.refsVE bm = true)
    (x1 : PySem.W.findIn K (.ref C) "__setattr__" = some (some (.builtin "object.__setattr__")))
    (x2 : PySem.W.subIn K (.ref C) (.type "BaseException") = some true)
    (x3 : PySem.W.typeIn K (.ref C) = some (.type "type"))
    (x4 : PySem.W.keepIn K (.ref C) = true)
    (x5 : PySem.W.findIn K (.ref C) "__init__" = some (some (.ref fI)))
    (x6 : PySem.W.typeIn K (.ref fI) = some (.type "function"))
    (x7 : K.lookup fI = some ⟨ocI, odI, .func (PySem.W.fnOf "__init__" "NoRest.__init__" (defArgs ini_st) (defBody ini_st) (defScope ini_st) .none kVI dcI pmI anI cdI ctI), slI⟩)
    (x8 : PySem.W.codeIn K cdI "NoRest.__init__" = true)
    (x9 : PySem.W.keepIn K (.ref fI) = true)
    (y1 : PySem.W.findIn K (.ref C) "word" = some none)
    (y2 : (PySem.W.clsIn K C).isSome = true)
    (y3 : PySem.W.findIn K (.ref C) "__getattribute__" = some (some (.builtin "BaseException.__getattribute__")))
    (y4 : PySem.W.findIn K (.ref C) "__getattr__" = some none)
    (y5 : PySem.W.hasDictIn K C = true)
    (y6 : PySem.W.findIn K (.ref C) "__class__" = some (some (.builtin "object.__class__")))
    (y7 : PySem.W.specialIn K (.builtin "object.__class__") "__get__" = some (some (.builtin "getset_descriptor.__get__")))
    (y8 : PySem.W.takesIn K (.builtin "object.__class__") = some true)
    (y9 : PySem.W.mroIn K C (.type "object") = some true)
    (v1 : PySem.W.kitOne K (.ref C) (.type "ValueError") = some true)
    (b0 : PySem.W.nsIn K mainGlobals "NoBeat" = some (some (.ref o0)))
    (b1 : PySem.W.nsIn K mainGlobals "NoComer" = some (some (.ref o1)))
    (b2 : PySem.W.nsIn K mainGlobals "NoHouse" = some (some (.ref o2)))
    (b3 : PySem.W.nsIn K mainGlobals "NoPaper" = some (some (.ref o3)))
    (b4 : PySem.W.nsIn K mainGlobals "NoRow" = some (some (.ref o4)))
    (b5 : PySem.W.nsIn K mainGlobals "NoText" = some (some (.ref o5)))
    (b6 : PySem.W.nsIn K mainGlobals "TooMany" = some (some (.ref o6)))
    (v2 : PySem.W.kitAny K (.ref C) [.ref o0, .ref o1, .ref o2, .ref o3, .ref o4, .ref o5, .ref o6] = some false)
    (g1 : PySem.W.nsIn K mainGlobals "ONE" = some (some (.ref aO)))
    (g2 : K.lookup aO = some ⟨.type "tuple", none, .seq #[.int 1 t1, .int 1 t2] no, slO⟩)
    (z_abs : PySem.W.nsIn K mainGlobals "abs" = some none)
    (z_sum : PySem.W.nsIn K mainGlobals "sum" = some none)
    (z_list : PySem.W.nsIn K mainGlobals "list" = some none)
    (z_enumerate : PySem.W.nsIn K mainGlobals "enumerate" = some none)
    (z_len : PySem.W.nsIn K mainGlobals "len" = some none)
    (z_range : PySem.W.nsIn K mainGlobals "range" = some none)
    (z_tuple : PySem.W.nsIn K mainGlobals "tuple" = some none)
    (z_int : PySem.W.nsIn K mainGlobals "int" = some none)
    (z_repr : PySem.W.nsIn K mainGlobals "repr" = some none)
    (z_isinstance : PySem.W.nsIn K mainGlobals "isinstance" = some none)
    (z_ValueError : PySem.W.nsIn K mainGlobals "ValueError" = some none) :
    LawG l w K 13 63 "_law_script" ["_law_right"] mg fa := by
  have e := hfa.symm.trans (PySem.W.mg_of X G a21)
  cases e
  have F0 := fun_mk (st := common_divisor_st) l0 c0 k0
  have B0 := F0.binds (ps := ["one", "other"]) fun _ _ _ _ _ _ us hl => match us, hl with | [_, _], _ => rfl
  have F1 := fun_mk (st := fraction_st) l1 c1 k1
  have B1 := F1.binds (ps := ["top", "bottom"]) fun _ _ _ _ _ _ us hl => match us, hl with | [_, _], _ => rfl
  have F2 := fun_mk (st := minus_st) l2 c2 k2
  have B2 := F2.binds (ps := ["one", "other"]) fun _ _ _ _ _ _ us hl => match us, hl with | [_, _], _ => rfl
  have F3 := fun_mk (st := times_st) l3 c3 k3
  have B3 := F3.binds (ps := ["one", "other"]) fun _ _ _ _ _ _ us hl => match us, hl with | [_, _], _ => rfl
  have F4 := fun_mk (st := over_st) l4 c4 k4
  have B4 := F4.binds (ps := ["one", "other"]) fun _ _ _ _ _ _ us hl => match us, hl with | [_, _], _ => rfl
  have F5 := fun_mk (st := less_st) l5 c5 k5
  have B5 := F5.binds (ps := ["one", "other"]) fun _ _ _ _ _ _ us hl => match us, hl with | [_, _], _ => rfl
  have F6 := fun_mk (st := mean_of_st) l6 c6 k6
  have B6 := F6.binds (ps := ["pairs"]) fun _ _ _ _ _ _ us hl => match us, hl with | [_], _ => rfl
  have F7 := fun_mk (st := mean_st) l7 c7 k7
  have B7 := F7.binds (ps := ["flow"]) fun _ _ _ _ _ _ us hl => match us, hl with | [_], _ => rfl
  have F8 := fun_mk (st := second_st) l8 c8 k8
  have B8 := F8.binds (ps := ["flow"]) fun _ _ _ _ _ _ us hl => match us, hl with | [_], _ => rfl
  have F9 := fun_mk (st := word_of_st) l9 c9 k9
  have B9 := F9.binds (ps := ["flow", "hands"]) fun _ _ _ _ _ _ us hl => match us, hl with | [_, _], _ => rfl
  have F10 := fun_mk (st := ask_rest_st) l10 c10 k10
  have B10 := F10.binds (ps := ["flow", "hands"]) fun _ _ _ _ _ _ us hl => match us, hl with | [_, _], _ => rfl
  have F11 := fun_mk (st := lacking_st) l11 c11 k11
  have B11 := F11.binds (ps := ["flow"]) fun _ _ _ _ _ _ us hl => match us, hl with | [_], _ => rfl
  have F12 := fun_mk (st := empty_mean_st) l12 c12 k12
  have B12 := F12.binds (ps := ["flow", "w"]) fun _ _ _ _ _ _ us hl => match us, hl with | [_, _], _ => rfl
  have F13 := fun_mk (st := mean_standing_st) l13 c13 k13
  have B13 := F13.binds (ps := ["flow"]) fun _ _ _ _ _ _ us hl => match us, hl with | [_], _ => rfl
  have F14 := fun_mk (st := law_feed_st) l14 c14 k14
  have B14 := F14.binds (ps := ["_law_script"]) fun _ _ _ _ _ _ us hl => match us, hl with | [_], _ => rfl
  have F15 := fun_mk (st := law_draw_st) l15 c15 k15
  have B15 := F15.binds (ps := ["_law_feed_here", "_law_many"]) fun _ _ _ _ _ _ us hl => match us, hl with | [_, _], _ => rfl
  have F16 := fun_mk (st := law_frac_st) l16 c16 k16
  have B16 := F16.binds (ps := ["_law_top", "_law_bottom"]) fun _ _ _ _ _ _ us hl => match us, hl with | [_, _], _ => rfl
  have F17 := fun_mk (st := law_flow_st) l17 c17 k17
  have B17 := F17.binds (ps := ["_law_feed_here"]) fun _ _ _ _ _ _ us hl => match us, hl with | [_], _ => rfl
  have F18 := fun_mk (st := law_due_st) l18 c18 k18
  have B18 := F18.binds (ps := ["_law_flow_here", "_law_w"]) fun _ _ _ _ _ _ us hl => match us, hl with | [_, _], _ => rfl
  have F20 := fun_mk (st := law_right_st) l20 c20 k20
  have B20 := F20.binds (ps := ["_law_flow_here", "_law_w"]) fun _ _ _ _ _ _ us hl => match us, hl with | [_, _], _ => rfl
  have F21 := fun_mk (st := law_st) l21 c21 k21
  have B21 := F21.binds (ps := ["_law_script"]) fun _ _ _ _ _ _ us hl => match us, hl with | [_], _ => rfl
  have FI := fun_mk (st := ini_st) x7 x8 x9
  have BI := FI.binds (ps := ["self", "word"]) fun _ _ _ _ _ _ us hl => match us, hl with | [_, _], _ => rfl
  refine ⟨PySem.W.fnOf "law" "law" (defArgs law_st) (defBody law_st) (defScope law_st) .none kV21 dc21 pm21 an21 cd21 ct21, [(cR, pR)], ⟨fun _ => C, [(pR, lamQ)]⟩, runBody 1 5 (law_sv feedF flowF drawF right_fv), fun p hp => ⟨"_law_right", List.mem_cons_self, ?_⟩, fun p hp => ?_, fun q hq => ⟨(cR, pR), List.mem_cons_self, ?_⟩, fun s v => ?_, fun ns _ _ => law_ok ns, fun base KB GB hTB => ?_⟩
  · have : p = (cR, pR) := by simpa using hp
    subst this; exact tR
  · have : p = (cR, pR) := by simpa using hp
    subst this; exact nR
  · have : q = (pR, lamQ) := by simpa using hq
    subst this; rfl
  rotate_left
  · let T : Top := ⟨l.prog, w, K, mg, base, ⟨fun _ => C, [(pR, lamQ)]⟩⟩
    have M : Mg T := ⟨PySem.W.mg_none_of X G z_abs, PySem.W.mg_none_of X G z_sum, PySem.W.mg_none_of X G z_list, PySem.W.mg_none_of X G z_enumerate, PySem.W.mg_none_of X G z_len, PySem.W.mg_none_of X G z_range, PySem.W.mg_none_of X G z_tuple, PySem.W.mg_none_of X G z_int, PySem.W.mg_none_of X G z_repr⟩
    have ci : ClsInit K cW := ⟨w1, w2, w3⟩
    have TC : OexC K C := ⟨⟨nm, q, Nn, bs, bm, sn, sub, ab, col, dd, m0, m1, m2, m3, m5, xC, xb⟩, x1, x2, x3, x4⟩
    have XN : ExcT T "NoRest" ["word"] := ⟨fI, _, _, PySem.W.mg_of X G aC, TC, x5, x6, init1x_ok (T := T) FI ini_sc (PySem.W.mg_of X G aW) ci rfl rfl (fun _ _ => ⟨_, rfl⟩) rfl rfl, BI, fun f hf => by
      have : f = "word" := by simpa using hf
      subst this; exact y1⟩
    have gO : GlobW T "ONE" (.tup [.int 1, .int 1]) := ⟨.ref aO, .ref aO, PySem.W.mg_of X G g1, rfl, fun ρ H => .tup (vs := [.int 1, .int 1]) (.inr ?_) (.cons (.int 1) (.cons (.int 1) .nil))⟩
    rotate_left
    · exact ⟨_, _, _, g2, rfl, rfl, by rw [sizeLine_eq]; exact Nat.le_of_ble_eq_true rfl, .cons ⟨_, rfl⟩ (.cons ⟨_, rfl⟩ .nil)⟩
    have EF : ExcF K C := ⟨y2, y3, y4, x2, y5, y6, y7, y8, y9⟩
    have hu : ∀ p ∈ T.cm.T, p.1 = pR → p.2 = lamQ := fun p hp _ => by
      have : p = (pR, lamQ) := List.mem_singleton.mp hp
      subst this; rfl
    have TD : Told T cR pR := { me := ⟨f19, kV19, dc19, pm19, cd19, ct19, oc19, an19, od19, sl19, PySem.W.mg_of X G a19, k19, l19, c19⟩, tb := hTB (cR, pR) List.mem_cons_self, mT := List.mem_cons_self, uT := hu, wait := ⟨cW, PySem.W.mg_of X G aW, w4⟩, mi := PySem.W.mg_none_of X G z_isinstance, mv := PySem.W.mg_none_of X G z_ValueError, nr := PySem.W.mg_of X G aC, ex := EF, nf := y1, isV := v1, oth := ⟨o0, o1, o2, o3, o4, o5, o6, PySem.W.mg_of X G b0, PySem.W.mg_of X G b1, PySem.W.mg_of X G b2, PySem.W.mg_of X G b3, PySem.W.mg_of X G b4, PySem.W.mg_of X G b5, PySem.W.mg_of X G b6, v2⟩ }
    have D_common_divisor := def_mk (T := T) F0 common_divisor_sc (PySem.W.mg_of X G a0) B0 (common_divisor_bd (k := 2) M) common_divisor_im
    have D_fraction := def_mk (T := T) F1 fraction_sc (PySem.W.mg_of X G a1) B1 (fraction_bd (k := 3) M D_common_divisor) fraction_im
    have D_minus := def_mk (T := T) F2 minus_sc (PySem.W.mg_of X G a2) B2 (minus_bd (k := 4) M D_fraction) minus_im
    have D_times := def_mk (T := T) F3 times_sc (PySem.W.mg_of X G a3) B3 (times_bd (k := 4) M D_fraction) times_im
    have D_over := def_mk (T := T) F4 over_sc (PySem.W.mg_of X G a4) B4 (over_bd (k := 4) M D_fraction) over_im
    have D_less := def_mk (T := T) F5 less_sc (PySem.W.mg_of X G a5) B5 (less_bd (k := 2) M) less_im
    have D_mean_of := def_mk (T := T) F6 mean_of_sc (PySem.W.mg_of X G a6) B6 (mean_of_bd (k := 4) M D_fraction) mean_of_im
    have D_mean := def_mk (T := T) F7 mean_sc (PySem.W.mg_of X G a7) B7 (mean_bd (k := 5) M D_mean_of) mean_im
    have D_second := def_mk (T := T) F8 second_sc (PySem.W.mg_of X G a8) B8 (second_bd (k := 5) M D_mean_of) second_im
    have D_word_of := def_mk (T := T) F9 word_of_sc (PySem.W.mg_of X G a9) B9 (word_of_bd (k := 6) M D_mean (D_less.mono (by decide : 3 ≤ 6))) word_of_im
    have D_ask_rest := def_mk (T := T) F10 ask_rest_sc (PySem.W.mg_of X G a10) B10 (ask_rest_bd (k := 7) M D_word_of XN (by decide)) ask_rest_im
    have D_lacking := def_mk (T := T) F11 lacking_sc (PySem.W.mg_of X G a11) B11 (lacking_bd (k := 6) M (D_minus.mono (by decide : 5 ≤ 6)) D_mean gO) lacking_im
    have D_empty_mean := def_mk (T := T) F12 empty_mean_sc (PySem.W.mg_of X G a12) B12 (empty_mean_bd (k := 8) M D_ask_rest (D_over.mono (by decide : 5 ≤ 8)) (D_lacking.mono (by decide : 7 ≤ 8))) empty_mean_im
    have D_mean_standing := def_mk (T := T) F13 mean_standing_sc (PySem.W.mg_of X G a13) B13 (mean_standing_bd (k := 8) M D_ask_rest (D_over.mono (by decide : 5 ≤ 8)) (D_times.mono (by decide : 5 ≤ 8)) (D_lacking.mono (by decide : 7 ≤ 8)) (D_minus.mono (by decide : 5 ≤ 8)) (D_mean.mono (by decide : 6 ≤ 8)) (D_second.mono (by decide : 6 ≤ 8))) mean_standing_im
    have D_law_feed := def_mk (T := T) F14 law_feed_sc (PySem.W.mg_of X G a14) B14 (law_feed_bd (k := 2) M) (Impl.refl _)
    have D_law_draw := def_mk (T := T) F15 law_draw_sc (PySem.W.mg_of X G a15) B15 (law_draw_bd (k := 2) M) (Impl.refl _)
    have D_law_frac := def_mk (T := T) F16 law_frac_sc (PySem.W.mg_of X G a16) B16 (law_frac_bd (k := 2) M) law_frac_im
    have D_law_flow := def_mk (T := T) F17 law_flow_sc (PySem.W.mg_of X G a17) B17 (law_flow_bd (k := 3) M D_law_draw) (Impl.refl _)
    have D_law_due := def_mk (T := T) F18 law_due_sc (PySem.W.mg_of X G a18) B18 (law_due_bd (k := 3) M D_law_frac) law_due_im
    have D_law_right := defG_mkC (T := T) l20 c20 k20 law_right_sc (PySem.W.mg_of X G a20) B20 (law_right_bd (k := 9) M TD D_empty_mean D_mean_standing (D_law_due.mono (by decide : 4 ≤ 9))) law_right_im
    exact fnG_run (T := T) F21 law_sc (law_bd (k := 12) M (D_law_feed.mono (by decide : 3 ≤ 12)) (D_law_flow.mono (by decide : 4 ≤ 12)) (D_law_draw.mono (by decide : 3 ≤ 12)) D_law_right) (Impl.refl _)
  · exact .of_eq rfl

end K59
end HW
open PySem PySem.W PyProof.Rows
set_option maxRecDepth 100000 in
set_option maxHeartbeats 0 in
open_top head for PySem.Challenge.rw_hatchwaits_k59_means_until_empty_and_sta
set_option maxRecDepth 100000 in
set_option maxHeartbeats 0 in
theorem PySem.Challenge.cw_hatchwaits_k59_means_until_empty_and_sta_holds : PySem.Challenge.rw_hatchwaits_k59_means_until_empty_and_sta.Holds := by
  w_on; o_law; k_head; (case hw => w_witness2)
  k_fill
  refine HW.walkG (l := PySem.Challenge.rw_hatchwaits_k59_means_until_empty_and_sta) (n := 63) (k := 13) (x := "_law_script") (mks := ["_law_right"]) rfl (by decide) rfl ⟨rfl, by decide, by decide⟩ (fun w h Y => PySem.W.km_in_of Y) ?R ?F
  case R => intro y hy; simp only [List.mem_cons, List.not_mem_nil, or_false] at hy; subst hy; decide +kernel
  case F =>
    intro w mg fa h Y KX G hmg
    refine' HW.K59.all_mk KX G hmg ?a0 ?l0 ?c0 ?k0 ?a1 ?l1 ?c1 ?k1 ?a2 ?l2 ?c2 ?k2 ?a3 ?l3 ?c3 ?k3 ?a4 ?l4 ?c4 ?k4 ?a5 ?l5 ?c5 ?k5 ?a6 ?l6 ?c6 ?k6 ?a7 ?l7 ?c7 ?k7 ?a8 ?l8 ?c8 ?k8 ?a9 ?l9 ?c9 ?k9 ?a10 ?l10 ?c10 ?k10 ?a11 ?l11 ?c11 ?k11 ?a12 ?l12 ?c12 ?k12 ?a13 ?l13 ?c13 ?k13 ?a14 ?l14 ?c14 ?k14 ?a15 ?l15 ?c15 ?k15 ?a16 ?l16 ?c16 ?k16 ?a17 ?l17 ?c17 ?k17 ?a18 ?l18 ?c18 ?k18 ?a19 ?l19 ?c19 ?k19 ?a20 ?l20 ?c20 ?k20 ?a21 ?l21 ?c21 ?k21 ?tR ?nR ?aW ?w1 ?w2 ?w3 ?aC ?xC ?w4 ?xb ?x1 ?x2 ?x3 ?x4 ?x5 ?x6 ?x7 ?x8 ?x9 ?y1 ?y2 ?y3 ?y4 ?y5 ?y6 ?y7 ?y8 ?y9 ?v1 ?b0 ?b1 ?b2 ?b3 ?b4 ?b5 ?b6 ?v2 ?g1 ?g2 ?z_abs ?z_sum ?z_list ?z_enumerate ?z_len ?z_range ?z_tuple ?z_int ?z_repr ?z_isinstance ?z_ValueError
    (case a0 => first | k_is | rfl | decide +kernel)
    (case l0 => first | k_is | rfl | decide +kernel)
    (case c0 => first | k_is | rfl | decide +kernel)
    (case k0 => first | k_is | rfl | decide +kernel)
    (case a1 => first | k_is | rfl | decide +kernel)
    (case l1 => first | k_is | rfl | decide +kernel)
    (case c1 => first | k_is | rfl | decide +kernel)
    (case k1 => first | k_is | rfl | decide +kernel)
    (case a2 => first | k_is | rfl | decide +kernel)
    (case l2 => first | k_is | rfl | decide +kernel)
    (case c2 => first | k_is | rfl | decide +kernel)
    (case k2 => first | k_is | rfl | decide +kernel)
    (case a3 => first | k_is | rfl | decide +kernel)
    (case l3 => first | k_is | rfl | decide +kernel)
    (case c3 => first | k_is | rfl | decide +kernel)
    (case k3 => first | k_is | rfl | decide +kernel)
    (case a4 => first | k_is | rfl | decide +kernel)
    (case l4 => first | k_is | rfl | decide +kernel)
    (case c4 => first | k_is | rfl | decide +kernel)
    (case k4 => first | k_is | rfl | decide +kernel)
    (case a5 => first | k_is | rfl | decide +kernel)
    (case l5 => first | k_is | rfl | decide +kernel)
    (case c5 => first | k_is | rfl | decide +kernel)
    (case k5 => first | k_is | rfl | decide +kernel)
    (case a6 => first | k_is | rfl | decide +kernel)
    (case l6 => first | k_is | rfl | decide +kernel)
    (case c6 => first | k_is | rfl | decide +kernel)
    (case k6 => first | k_is | rfl | decide +kernel)
    (case a7 => first | k_is | rfl | decide +kernel)
    (case l7 => first | k_is | rfl | decide +kernel)
    (case c7 => first | k_is | rfl | decide +kernel)
    (case k7 => first | k_is | rfl | decide +kernel)
    (case a8 => first | k_is | rfl | decide +kernel)
    (case l8 => first | k_is | rfl | decide +kernel)
    (case c8 => first | k_is | rfl | decide +kernel)
    (case k8 => first | k_is | rfl | decide +kernel)
    (case a9 => first | k_is | rfl | decide +kernel)
    (case l9 => first | k_is | rfl | decide +kernel)
    (case c9 => first | k_is | rfl | decide +kernel)
    (case k9 => first | k_is | rfl | decide +kernel)
    (case a10 => first | k_is | rfl | decide +kernel)
    (case l10 => first | k_is | rfl | decide +kernel)
    (case c10 => first | k_is | rfl | decide +kernel)
    (case k10 => first | k_is | rfl | decide +kernel)
    (case a11 => first | k_is | rfl | decide +kernel)
    (case l11 => first | k_is | rfl | decide +kernel)
    (case c11 => first | k_is | rfl | decide +kernel)
    (case k11 => first | k_is | rfl | decide +kernel)
    (case a12 => first | k_is | rfl | decide +kernel)
    (case l12 => first | k_is | rfl | decide +kernel)
    (case c12 => first | k_is | rfl | decide +kernel)
    (case k12 => first | k_is | rfl | decide +kernel)
    (case a13 => first | k_is | rfl | decide +kernel)
    (case l13 => first | k_is | rfl | decide +kernel)
    (case c13 => first | k_is | rfl | decide +kernel)
    (case k13 => first | k_is | rfl | decide +kernel)
    (case a14 => first | k_is | rfl | decide +kernel)
    (case l14 => first | k_is | rfl | decide +kernel)
    (case c14 => first | k_is | rfl | decide +kernel)
    (case k14 => first | k_is | rfl | decide +kernel)
    (case a15 => first | k_is | rfl | decide +kernel)
    (case l15 => first | k_is | rfl | decide +kernel)
    (case c15 => first | k_is | rfl | decide +kernel)
    (case k15 => first | k_is | rfl | decide +kernel)
    (case a16 => first | k_is | rfl | decide +kernel)
    (case l16 => first | k_is | rfl | decide +kernel)
    (case c16 => first | k_is | rfl | decide +kernel)
    (case k16 => first | k_is | rfl | decide +kernel)
    (case a17 => first | k_is | rfl | decide +kernel)
    (case l17 => first | k_is | rfl | decide +kernel)
    (case c17 => first | k_is | rfl | decide +kernel)
    (case k17 => first | k_is | rfl | decide +kernel)
    (case a18 => first | k_is | rfl | decide +kernel)
    (case l18 => first | k_is | rfl | decide +kernel)
    (case c18 => first | k_is | rfl | decide +kernel)
    (case k18 => first | k_is | rfl | decide +kernel)
    (case a19 => first | k_is | rfl | decide +kernel)
    (case l19 => first | k_is | rfl | decide +kernel)
    (case c19 => first | k_is | rfl | decide +kernel)
    (case k19 => first | k_is | rfl | decide +kernel)
    (case a20 => first | k_is | rfl | decide +kernel)
    (case l20 => first | k_is | rfl | decide +kernel)
    (case c20 => first | k_is | rfl | decide +kernel)
    (case k20 => first | k_is | rfl | decide +kernel)
    (case a21 => first | k_is | rfl | decide +kernel)
    (case l21 => first | k_is | rfl | decide +kernel)
    (case c21 => first | k_is | rfl | decide +kernel)
    (case k21 => first | k_is | rfl | decide +kernel)
    (case tR => first | k_is | rfl | decide +kernel)
    (case nR => first | k_is | rfl | decide +kernel)
    (case aW => first | k_is | rfl | decide +kernel)
    (case w1 => first | k_is | rfl | decide +kernel)
    (case w2 => first | k_is | rfl | decide +kernel)
    (case w3 => first | k_is | rfl | decide +kernel)
    (case aC => first | k_is | rfl | decide +kernel)
    (case xC => first | k_is | rfl | decide +kernel)
    (case w4 => first | k_is | rfl | decide +kernel)
    (case xb => first | k_is | rfl | decide +kernel)
    (case x1 => first | k_is | rfl | decide +kernel)
    (case x2 => first | k_is | rfl | decide +kernel)
    (case x3 => first | k_is | rfl | decide +kernel)
    (case x4 => first | k_is | rfl | decide +kernel)
    (case x5 => first | k_is | rfl | decide +kernel)
    (case x6 => first | k_is | rfl | decide +kernel)
    (case x7 => first | k_is | rfl | decide +kernel)
    (case x8 => first | k_is | rfl | decide +kernel)
    (case x9 => first | k_is | rfl | decide +kernel)
    (case y1 => first | k_is | rfl | decide +kernel)
    (case y2 => first | k_is | rfl | decide +kernel)
    (case y3 => first | k_is | rfl | decide +kernel)
    (case y4 => first | k_is | rfl | decide +kernel)
    (case y5 => first | k_is | rfl | decide +kernel)
    (case y6 => first | k_is | rfl | decide +kernel)
    (case y7 => first | k_is | rfl | decide +kernel)
    (case y8 => first | k_is | rfl | decide +kernel)
    (case y9 => first | k_is | rfl | decide +kernel)
    (case v1 => first | k_is | rfl | decide +kernel)
    (case b0 => first | k_is | rfl | decide +kernel)
    (case b1 => first | k_is | rfl | decide +kernel)
    (case b2 => first | k_is | rfl | decide +kernel)
    (case b3 => first | k_is | rfl | decide +kernel)
    (case b4 => first | k_is | rfl | decide +kernel)
    (case b5 => first | k_is | rfl | decide +kernel)
    (case b6 => first | k_is | rfl | decide +kernel)
    (case v2 => first | k_is | rfl | decide +kernel)
    (case g1 => first | k_is | rfl | decide +kernel)
    (case g2 => first | k_is | rfl | decide +kernel)
    (case z_abs => first | k_is | rfl | decide +kernel)
    (case z_sum => first | k_is | rfl | decide +kernel)
    (case z_list => first | k_is | rfl | decide +kernel)
    (case z_enumerate => first | k_is | rfl | decide +kernel)
    (case z_len => first | k_is | rfl | decide +kernel)
    (case z_range => first | k_is | rfl | decide +kernel)
    (case z_tuple => first | k_is | rfl | decide +kernel)
    (case z_int => first | k_is | rfl | decide +kernel)
    (case z_repr => first | k_is | rfl | decide +kernel)
    (case z_isinstance => first | k_is | rfl | decide +kernel)
    (case z_ValueError => first | k_is | rfl | decide +kernel)
