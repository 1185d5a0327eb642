import PyProof.Rows.All
import HandS.ForExc
import HandS.Text
import HandS.TupAny
import HandS.TupMul
import HandS.Deep
import HandS.Wide
import HandS.Comp
import HandS.CallSlots
import HandS.Defaults
import HandS.ExcIs
import HandS.Zip
import KE.GoesMore
import KE.GoesZip
import HandS.IsInst
import HandS.SortInts
import HandS.RaiseMore
import HandS.FStr
import HandS.Small
import HandS.TupSets
import HandS.WrittenGet
import HandS.HeadHook4
import HandS.HeadEnd
import HandS.Head2
import HandS.Ends
import HandS.Head0
import HandS.Head1
import HandS.Words
import HandS.WordsExc
import HandS.ExcInit
import HandS.ExcField
import HandS.Conv
import KE.KExcSuper
import KE.KSuper
import HandS.Style
import HandS.TupLe
import HandS.DictComp
import KE.GoesEnum
import HandS.SortOrd
import KE.BitLaws
import PySem.Challenge.RW_strikejoin_k56_direction_papers
set_option Elab.async false
set_option linter.all false
section
/-! CICore: plain data, states, and what each construct does on plain data. No heap here. -/
namespace CI
open PySem L2

/-- plain data -/
inductive D where
  | non | bl (b : Bool) | int (i : Int) | str (x : Str)
  | tup (xs : List D) | lst (xs : List D)
  | dic (kvs : List (D × D))
  | obj (c : Str) (fs : List (Str × D))
  | glo (x : Str)
deriving Inhabited

abbrev Exc := Str × List (Str × D)
def isObj : D → Bool
  | .obj _ _ => true
  | _ => false
/-- a slot of the frame -/
inductive Sl where
  | emp | val (d : D) | own (d : D) | bor (d : D) | exn (x : Exc)
deriving Inhabited
abbrev En := List Sl
/-- an expression's result: frozen data, a fresh object, an object that a name holds -/
inductive Rv where
  | val (d : D) | own (d : D) | bor (d : D)
deriving Inhabited
def Rv.d : Rv → D
  | .val d => d
  | .own d => d
  | .bor d => d
inductive Out (α : Type) where
  | ok (a : α) (ρ : En) | exc (x : Exc) (ρ : En) | stuck
abbrev Mn (α : Type) : Type := En → Out α
inductive Res where
  | ok (r : Rv) | exc (x : Exc) | stuck
abbrev Callee := Str → List Rv → Res
inductive Fl where
  | nx | brk | cnt | ret (r : Rv)

def ret {α : Type} (a : α) : Mn α := fun ρ => .ok a ρ
def stk {α : Type} : Mn α := fun _ => .stuck
def bnd {α β : Type} (m : Mn α) (f : α → Mn β) : Mn β := fun ρ => match m ρ with
  | .ok a ρ' => f a ρ'
  | .exc x ρ' => .exc x ρ'
  | .stuck => .stuck
def ofO {α : Type} : Option α → Mn α
  | some a => ret a
  | none => stk

/-! ### names and constants -/
def cCst (d : D) : Mn Rv := ret (.val d)
def cVar (i : Nat) : Mn Rv := fun ρ => match ρ[i]? with
  | some (.val d) => .ok (.val d) ρ
  | some (.own d) => .ok (.bor d) ρ
  | some (.bor d) => .ok (.bor d) ρ
  | _ => .stuck
def cFrz (i : Nat) : Mn Rv := fun ρ => match ρ[i]? with
  | some (.val d) => .ok (.val d) ρ
  | some (.own d) => .ok (.val d) (ρ.set i (.val d))
  | _ => .stuck
def cMv (i : Nat) : Mn Rv := fun ρ => match ρ[i]? with
  | some (.val d) => .ok (.val d) ρ
  | some (.own d) => if isObj d = true then .stuck else .ok (.own d) (ρ.set i .emp)
  | _ => .stuck
/-- to keep: frozen -/
def vD : Rv → Option D
  | .val d => some d
  | .own d => some d
  | .bor _ => none
def cV (c : Mn Rv) : Mn D := bnd c fun r => ofO (vD r)
/-- to read -/
def cR (c : Mn Rv) : Mn D := bnd c fun r => ret r.d
/-- an argument -/
def aR : Rv → Rv
  | .own d => .val d
  | r => r
def cA (c : Mn Rv) : Mn Rv := bnd c fun r => ret (aR r)

def cNil {α : Type} : Mn (List α) := ret []
def cCons {α : Type} (a : Mn α) (r : Mn (List α)) : Mn (List α) := bnd a fun x => bnd r fun xs => ret (x :: xs)

/-! ### operators, by values -/
def cUn (f : D → Option Rv) (a : Mn Rv) : Mn Rv := bnd (cR a) fun x => ofO (f x)
def cBin (f : D → D → Option Rv) (a b : Mn Rv) : Mn Rv := bnd (cR a) fun x => bnd (cR b) fun y => ofO (f x y)
def smallI (i : Int) : Bool := decide (-(2 ^ 64) < i) && decide (i < 2 ^ 64)
def sz (n : Nat) : Bool := decide (n ≤ sizeLine)

def vI (i : Int) : Option Rv := some (.val (.int i))
def vB (b : Bool) : Option Rv := some (.val (.bl b))
def vS (x : Str) : Option Rv := some (.val (.str x))
def oAdd : D → D → Option Rv
  | .int i, .int j => vI (i + j)
  | .str x, .str y => if sz (x.length + y.length) then vS (x ++ y) else none
  | .tup xs, .tup ys => if sz (xs.length + ys.length) then some (.val (.tup (xs ++ ys))) else none
  | .lst xs, .lst ys => if sz (xs.length + ys.length) then some (.own (.lst (xs ++ ys))) else none
  | _, _ => none
def oSub : D → D → Option Rv
  | .int i, .int j => vI (i - j)
  | _, _ => none
def mulOk (i j : Int) : Bool := smallI i || smallI j || decide (i.natAbs.log2 + j.natAbs.log2 < 1000000)
def oMul : D → D → Option Rv
  | .int i, .int j => if mulOk i j then vI (i * j) else none
  | .lst xs, .int k => if decide (-(2 ^ 63) ≤ k) && decide (k < 2 ^ 63) && sz (xs.length * k.toNat) then some (.own (.lst (List.replicate k.toNat xs).flatten)) else none
  | .tup xs, .int k => if decide (1 ≤ k) && decide (k ≤ 1000) && !xs.isEmpty && decide (xs.length ≤ 1000) then some (.val (.tup (List.replicate k.toNat xs).flatten)) else none
  | _, _ => none
def divOk (j : Int) : Bool := (decide (j ≠ 0) && decide (j.natAbs < 1073741824)) || (decide (0 < j) && decide (j.natAbs.log2 < 9000))
def oFdiv : D → D → Option Rv
  | .int i, .int j => if divOk j then vI (i.fdiv j) else none
  | _, _ => none
def oMod : D → D → Option Rv
  | .int i, .int j => if j ≠ 0 then vI (i.fmod j) else none
  | _, _ => none
def powOk (i j : Int) : Bool := decide (0 ≤ j) && decide (j ≤ 1000000) && decide (i.natAbs < 2 ^ 64)
def oPow : D → D → Option Rv
  | .int i, .int j => if powOk i j then vI (i ^ j.toNat) else none
  | _, _ => none
def oShl : D → D → Option Rv
  | .int i, .int j => if powOk i j then vI (i * 2 ^ j.toNat) else none
  | _, _ => none
def oShr : D → D → Option Rv
  | .int i, .int j => if 0 ≤ j then vI (i / 2 ^ j.toNat) else none
  | _, _ => none
def oAnd : D → D → Option Rv
  | .int i, .int j => vI (Builtin.bitAnd i j)
  | _, _ => none
def oOr : D → D → Option Rv
  | .int i, .int j => vI (Builtin.bitOr i j)
  | _, _ => none
def oXor : D → D → Option Rv
  | .int i, .int j => vI (Builtin.bitXor i j)
  | _, _ => none
def oNeg : D → Option Rv
  | .int i => vI (-i)
  | _ => none

/-! ### comparisons -/
mutual
def pyOf : D → Option PyData
  | .non => some .none
  | .bl b => some (.bool b)
  | .int i => some (.int i)
  | .str x => some (.str x)
  | .tup ds => (pyAll ds).map .tuple
  | .lst ds => (pyAll ds).map .list
  | _ => none
def pyAll : List D → Option (List PyData)
  | [] => some []
  | d :: ds => match pyOf d, pyAll ds with
    | some x, some xs => some (x :: xs)
    | _, _ => none
end
def eqD (a b : D) : Option Bool := match pyOf a, pyOf b with
  | some d, some e => if SeqAt.shaped d && SeqAt.shaped e then some (PyData.eqv d e) else none
  | _, _ => none
def oEq (a b : D) : Option Rv := (eqD a b).bind vB
def oNe (a b : D) : Option Rv := (eqD a b).bind fun k => vB (!k)
def cmpI (p : Int → Int → Bool) : D → D → Option Rv
  | .int i, .int j => vB (p i j)
  | _, _ => none
def oLt : D → D → Option Rv := cmpI fun i j => decide (i < j)
def oLe : D → D → Option Rv := cmpI fun i j => decide (i ≤ j)
def oGt : D → D → Option Rv := cmpI fun i j => decide (j < i)
def oGe : D → D → Option Rv := cmpI fun i j => decide (j ≤ i)
def inD (a b : D) : Option Bool := match pyOf a, pyOf b with
  | some d, some (.list ds) => if SeqAt.shaped d && SeqAt.shaped (.list ds) then some (ds.any fun z => PyData.eqv z d) else none
  | _, _ => none
def oInL (a b : D) : Option Rv := (inD a b).bind vB
def oNotInL (a b : D) : Option Rv := (inD a b).bind fun k => vB (!k)
def isNon : D → Bool
  | .non => true
  | _ => false
def oIsN (a b : D) : Option Rv := if isNon b then vB (isNon a) else none
def oNotN (a b : D) : Option Rv := if isNon b then vB (!isNon a) else none

/-! ### tests -/
def truD : D → Option Bool
  | .non => some false
  | .bl b => some b
  | .int i => some (i != 0)
  | .str x => if sz x.length then some ((x.length : Int) != 0) else none
  | .tup xs => some (!xs.isEmpty)
  | .lst xs => some (!xs.isEmpty)
  | .dic kvs => some (!kvs.isEmpty)
  | _ => none
def cTr (c : Mn Rv) : Mn Bool := bnd c fun r => ofO (truD r.d)
def cNot (c : Mn Bool) : Mn Bool := bnd c fun k => ret (!k)
def cAnd (a b : Mn Bool) : Mn Bool := bnd a fun k => if k = true then b else ret false
def cOr (a b : Mn Bool) : Mn Bool := bnd a fun k => if k = true then ret true else b
def blD : D → Option Bool
  | .bl b => some b
  | _ => none
def cNotV (a : Mn Rv) : Mn Rv := bnd a fun r => bnd (ofO (blD r.d)) fun k => ret (.val (.bl (!k)))
def cAndV (a b : Mn Rv) : Mn Rv := bnd a fun r => bnd (ofO (blD r.d)) fun k => if k = true then b else ret (.val (.bl false))
def cOrV (a b : Mn Rv) : Mn Rv := bnd a fun r => bnd (ofO (blD r.d)) fun k => if k = true then ret (.val (.bl true)) else b
def cIf (t : Mn Bool) (a b : Mn Rv) : Mn Rv := bnd t fun k => if k = true then a else b
def blR : Option Rv → Option Bool
  | some (.val (.bl b)) => some b
  | _ => none
def cChain (f g : D → D → Option Rv) (a b c : Mn Rv) : Mn Rv := bnd a fun x => bnd b fun y => bnd (ofO (blR (f x.d y.d))) fun k => if k = true then bnd c fun z => ofO (g y.d z.d) else ret (.val (.bl false))

/-! ### places -/
def ixD : D → D → Option Rv
  | .lst xs, .int i => (atI xs i).map .val
  | .tup xs, .int i => (atI xs i).map .val
  | .str x, .int i => if sz x.length then (atI x.cps.toList i).map fun c => .val (.str ⟨#[c]⟩) else none
  | _, _ => none
def oI : D → Option (Option Int)
  | .int i => some (some i)
  | _ => none
def cNoPart : Mn (Option Int) := ret none
def cPart (c : Mn Rv) : Mn (Option Int) := bnd c fun r => ofO (oI r.d)
def cutD (xs : List D) (lo hi : Option Int) : List D := (xs.drop (HT.sIx xs.length 0 lo)).take (HT.sIx xs.length xs.length hi - HT.sIx xs.length 0 lo)
def slD : D → Option Int → Option Int → Option Rv
  | .lst xs, lo, hi => some (.own (.lst (cutD xs lo hi)))
  | .tup xs, lo, hi => some (.val (.tup (cutD xs lo hi)))
  | .str x, lo, hi => if sz x.length then some (.val (.str (cutS x lo hi))) else none
  | _, _, _ => none
def cSl (c : Mn Rv) (l h : Mn (Option Int)) : Mn Rv := bnd c fun r => bnd l fun lo => bnd h fun hi => ofO (slD r.d lo hi)

/-! ### displays -/
def cTup (c : Mn (List D)) : Mn Rv := bnd c fun ds => if sz ds.length = true then ret (.val (.tup ds)) else stk
def cLst (c : Mn (List D)) : Mn Rv := bnd c fun ds => if sz ds.length = true then ret (.own (.lst ds)) else stk

theorem bnd_assoc {α β γ : Type} (m : Mn α) (f : α → Mn β) (g : β → Mn γ) : bnd (bnd m f) g = bnd m fun x => bnd (f x) g := by
  funext ρ
  unfold bnd
  cases m ρ <;> rfl
theorem bnd_ret {α β : Type} (a : α) (f : α → Mn β) : bnd (ret a) f = f a := rfl

/-! ### statements -/
def cExpr (c : Mn Rv) : Mn Fl := bnd c fun _ => ret .nx
def retR : Rv → Mn Fl
  | .bor _ => stk
  | r => ret (.ret r)
def cRet (c : Mn Rv) : Mn Fl := bnd c retR
def cRetN : Mn Fl := ret (.ret (.val .non))
def cPass : Mn Fl := ret .nx
def cBrk : Mn Fl := ret .brk
def cCnt : Mn Fl := ret .cnt
def cSeq (a b : Mn Fl) : Mn Fl := fun ρ => match a ρ with
  | .ok .nx ρ' => b ρ'
  | o => o
def cIfS (t : Mn Bool) (a b : Mn Fl) : Mn Fl := bnd t fun k => if k = true then a else b
def slOf : Rv → Option Sl
  | .val d => some (.val d)
  | .own d => some (.own d)
  | .bor _ => none
/-- x = e -/
def cSet (i : Nat) (c : Mn Rv) : Mn Fl := bnd c fun r ρ => match slOf r with
  | some s => .ok .nx (ρ.set i s)
  | none => .stuck
/-- an own object changes -/
def mutU (i : Nat) (f : D → Option D) : Mn Unit := fun ρ => match ρ[i]? with
  | some (.own d) => (match f d with
    | some d' => .ok () (ρ.set i (.own d'))
    | none => .stuck)
  | _ => .stuck
def needOwn (i : Nat) : Mn Unit := fun ρ => match ρ[i]? with
  | some (.own (.lst _)) => .ok () ρ
  | _ => .stuck
def appD (d : D) : D → Option D
  | .lst ds => if ds.length < sizeLine then some (.lst (ds ++ [d])) else none
  | _ => none
def setD (k : D) (d : D) : D → Option D
  | .lst ds => (match k with
    | .int i => (ixN ds.length i).map fun j => .lst (ds.set j d)
    | _ => none)
  | _ => none
/-- targets -/
abbrev Tg := D → Mn Unit
def tNm (i : Nat) : Tg := fun d ρ => .ok () (ρ.set i (.val d))
def tAll : List Tg → List D → Mn Unit
  | [], [] => ret ()
  | t :: ts, d :: ds => bnd (t d) fun _ => tAll ts ds
  | _, _ => stk
def tTup (ts : List Tg) : Tg
  | .tup ds => if ds.length = ts.length then tAll ts ds else stk
  | _ => stk
/-- x[k] = .. -/
def tSub (i : Nat) (k : Mn Rv) : Tg := fun d => bnd (needOwn i) fun _ => bnd (cR k) fun kd => mutU i (setD kd d)
def cSetT (t : Tg) (c : Mn D) : Mn Fl := bnd c fun d => bnd (t d) fun _ => ret .nx
/-- x op= e, numbers -/
def cAug (f : D → D → Option D) (i : Nat) (c : Mn Rv) : Mn Fl := bnd (cVar i) fun x => bnd c fun y => bnd (ofO (f x.d y.d)) fun d ρ => .ok .nx (ρ.set i (.val d))
def augAdd : D → D → Option D
  | .int i, .int j => some (.int (i + j))
  | _, _ => none
def augSub : D → D → Option D
  | .int i, .int j => some (.int (i - j))
  | _, _ => none
def cApp (i : Nat) (c : Mn Rv) : Mn Fl := bnd (needOwn i) fun _ => bnd (cV c) fun d => bnd (mutU i (appD d)) fun _ => ret .nx
/-- x[k] op= e -/
def getD (k : D) : D → Option D
  | .lst ds => (match k with
    | .int i => if 0 ≤ i then atI ds i else none
    | _ => none)
  | _ => none
def cGet (i : Nat) (k : D) : Mn D := fun ρ => match ρ[i]? with
  | some (.own d) => ofO (getD k d) ρ
  | _ => .stuck
def cAugIx (f : D → D → Option D) (i : Nat) (k : Mn Rv) (c : Mn Rv) : Mn Fl := bnd (needOwn i) fun _ => bnd (cR k) fun kd => bnd (cGet i kd) fun x => bnd (cR c) fun y => bnd (ofO (f x y)) fun d => bnd (mutU i (setD kd d)) fun _ => ret .nx

/-- loops -/
def forL (t : Tg) (body : Mn Fl) : List D → Mn Fl
  | [] => ret .nx
  | d :: ds => bnd (t d) fun _ ρ => match body ρ with
    | .ok .nx ρ' => forL t body ds ρ'
    | .ok .cnt ρ' => forL t body ds ρ'
    | .ok .brk ρ' => .ok .nx ρ'
    | o => o
def cFor (it : Mn (List D)) (t : Tg) (body : Mn Fl) : Mn Fl := bnd it fun ds => forL t body ds
/-- slot j is borrowed meanwhile -/
def unbor (j : Nat) (ρ : En) : En := match ρ[j]? with
  | some (.bor d) => ρ.set j (.own d)
  | _ => ρ
def Out.mapE {α : Type} (f : En → En) : Out α → Out α
  | .ok a ρ => .ok a (f ρ)
  | .exc x ρ => .exc x (f ρ)
  | .stuck => .stuck
def cLock {α : Type} (j : Nat) (m : Mn α) : Mn α := fun ρ => match ρ[j]? with
  | some (.own d) => if isObj d = true then m ρ else (m (ρ.set j (.bor d))).mapE (unbor j)
  | _ => m ρ
def whileN (c : Mn Bool) (body : Mn Fl) : Nat → Mn Fl
  | 0 => stk
  | n + 1 => bnd c fun k => if k = true then (fun ρ => match body ρ with
    | .ok .nx ρ' => whileN c body n ρ'
    | .ok .cnt ρ' => whileN c body n ρ'
    | .ok .brk ρ' => .ok .nx ρ'
    | o => o) else ret .nx
def Out.isStuck {α : Type} : Out α → Bool
  | .stuck => true
  | _ => false
open Classical in
noncomputable def cWhile (c : Mn Bool) (body : Mn Fl) : Mn Fl := fun ρ => if h : ∃ n, (whileN c body n ρ).isStuck = false then whileN c body (choose h) ρ else .stuck
theorem whileN_mono (c : Mn Bool) (body : Mn Fl) : ∀ (n m : Nat) (ρ : En), n ≤ m → (whileN c body n ρ).isStuck = false → whileN c body m ρ = whileN c body n ρ
  | 0, _, ρ, _, h => by cases h
  | n + 1, 0, ρ, hl, _ => absurd hl (Nat.not_succ_le_zero n)
  | n + 1, m + 1, ρ, hl, h => by
    have ih := whileN_mono c body n m
    unfold whileN bnd at h ⊢
    cases hc : c ρ with
    | stuck => rfl
    | exc x ρ' => rfl
    | ok k ρ1 =>
      rw [hc] at h
      simp only at h ⊢
      cases k with
      | false => rfl
      | true =>
        simp only [if_true] at h ⊢
        cases hb : body ρ1 with
        | stuck => rfl
        | exc x ρ' => rfl
        | ok f ρ2 =>
          rw [hb] at h
          cases f with
          | brk => rfl
          | ret r => rfl
          | nx => exact ih ρ2 (Nat.le_of_succ_le_succ hl) h
          | cnt => exact ih ρ2 (Nat.le_of_succ_le_succ hl) h
theorem while_eq {c : Mn Bool} {body : Mn Fl} {n : Nat} {ρ : En} (h : (whileN c body n ρ).isStuck = false) : cWhile c body ρ = whileN c body n ρ := by
  unfold cWhile
  have hx : ∃ n, (whileN c body n ρ).isStuck = false := ⟨n, h⟩
  rw [dif_pos hx]
  have hc := Classical.choose_spec hx
  rcases Nat.le_total n (Classical.choose hx) with hl | hl
  · exact whileN_mono c body _ _ ρ hl h
  · exact (whileN_mono c body _ _ ρ hl hc).symm

/-! ### what is walked -/
def seqD : D → Option (List D)
  | .lst ds => some ds
  | .tup ds => some ds
  | _ => none
def seqR : Rv → Option (List D)
  | .val d => seqD d
  | .own d => seqD d
  | .bor _ => none
/-- an expression's list or tuple -/
def ciSeq (c : Mn Rv) : Mn (List D) := bnd c fun r => ofO (seqR r)
/-- a name's list or tuple, frozen or borrowed -/
def ciVar (i : Nat) : Mn (List D) := fun ρ => match ρ[i]? with
  | some (.val d) => ofO (seqD d) ρ
  | some (.bor d) => ofO (seqD d) ρ
  | _ => .stuck
def inRg (i : Int) : Bool := decide (-(2 ^ 62) ≤ i) && decide (i < 2 ^ 62)
def rgD (lo : Int) (n : Nat) : List D := (List.range n).map fun (k : Nat) => D.int (lo + (k : Int))
def rg1 : D → Option (List D)
  | .int j => if inRg j then some (rgD 0 j.toNat) else none
  | _ => none
def rg2 : D → D → Option (List D)
  | .int i, .int j => if inRg i && inRg j then some (rgD i (j - i).toNat) else none
  | _, _ => none
def ciRg1 (c : Mn Rv) : Mn (List D) := bnd (cCons (cA c) cNil) fun rs => match rs with
  | [r] => ofO (rg1 r.d)
  | _ => stk
def ciRg2 (a b : Mn Rv) : Mn (List D) := bnd (cCons (cA a) (cCons (cA b) cNil)) fun rs => match rs with
  | [r, q] => ofO (rg2 r.d q.d)
  | _ => stk

/-! ### comprehensions -/
def wipeE (ρ : En) : List Nat → En
  | [] => ρ
  | v :: vs => (wipeE ρ vs).set v .emp
def okOwn (ρ : En) (vs : List Nat) : Bool := vs.all fun j => match ρ[j]? with
  | some (.own _) => false
  | some (.bor _) => false
  | _ => true
def restE (ρ0 ρ : En) : List Nat → En
  | [] => ρ
  | v :: vs => match ρ0[v]? with
    | some s => (restE ρ0 ρ vs).set v s
    | none => restE ρ0 ρ vs
inductive Tn where
  | nm (i : Nat) | tup (ts : List Tn)
mutual
def setTn : Tn → D → En → Option En
  | .nm i, d, ρ => some (ρ.set i (.val d))
  | .tup ts, .tup ds, ρ => setTns ts ds ρ
  | .tup _, _, _ => none
def setTns : List Tn → List D → En → Option En
  | [], [], ρ => some ρ
  | t :: ts, d :: ds, ρ => (setTn t d ρ).bind fun ρ' => setTns ts ds ρ'
  | _, _, _ => none
end
mutual
def Tn.ix : Tn → List Nat
  | .nm i => [i]
  | .tup ts => Tn.ixs ts
def Tn.ixs : List Tn → List Nat
  | [] => []
  | t :: ts => t.ix ++ Tn.ixs ts
end
/-- the tests of a clause and the element: what a turn adds -/
def lcTurn (cond : Mn Bool) (elt : Mn Rv) (ρ : En) : Option (Option D × En) := match cond ρ with
  | .ok false ρ2 => some (none, ρ2)
  | .ok true ρ2 => (match cV elt ρ2 with
    | .ok y ρ3 => some (some y, ρ3)
    | _ => none)
  | _ => none
def lcL (t : Tn) (cond : Mn Bool) (elt : Mn Rv) (vs : List Nat) : List D → List D → En → Option (List D × En)
  | [], acc, ρ => some (acc, ρ)
  | d :: ds, acc, ρ => (setTn t d ρ).bind fun ρ1 => (lcTurn cond elt ρ1).bind fun q => match q.1 with
    | none => lcL t cond elt vs ds acc (wipeE q.2 vs)
    | some y => if acc.length < sizeLine then lcL t cond elt vs ds (acc ++ [y]) (wipeE q.2 vs) else none
def cLc (it : Mn (List D)) (t : Tn) (cond : Mn Bool) (elt : Mn Rv) (vs : List Nat) : Mn Rv := bnd it fun ds ρ =>
  if okOwn ρ vs && t.ix.all (fun i => vs.contains i) then (match lcL t cond elt vs ds [] (wipeE ρ vs) with
    | some q => .ok (.own (.lst q.1)) (restE ρ q.2 vs)
    | none => .stuck) else .stuck
def cYes : Mn Bool := ret true

/-! ### defs -/
/-- a def's plain meaning: its parameters' number, its slots' number, its body -/
structure FnI where
  np : Nat
  ns : Nat
  body : Callee → Mn Fl
def argSl : Rv → Sl
  | .val d => .val d
  | .own d => .val d
  | .bor d => .bor d
def startE (ns : Nat) (rs : List Rv) : En := rs.map argSl ++ List.replicate (ns - rs.length) .emp
def resOf : Out Fl → Res
  | .ok (.ret (.val d)) _ => .ok (.val d)
  | .ok (.ret (.own d)) _ => .ok (.own d)
  | .ok .nx _ => .ok (.val .non)
  | .exc x _ => .exc x
  | _ => .stuck
def runFn (d : FnI) (F : Callee) (rs : List Rv) : Res := if rs.length = d.np then resOf (d.body F (startE d.ns rs)) else .stuck
/-- an __init__ of the class c: the instance as it is left -/
def initEnd (c : Str) : Out Fl → Res
  | .ok .nx ρ => (match (ρ[(0 : Nat)]? : Option Sl) with
    | some (.own (.obj c' fs)) => if c' = c then .ok (.val (.obj c fs)) else .stuck
    | _ => .stuck)
  | .exc x _ => .exc x
  | _ => .stuck
def runInit (c : Str) (d : FnI) (F : Callee) (rs : List Rv) : Res := if rs.length + 1 = d.np then initEnd c (d.body F (.own (.obj c []) :: startE (d.ns - 1) rs)) else .stuck
/-- what the text's names mean when called: a def, a class by its __init__ -/
inductive Ent where
  | fn (d : FnI) | init (d : FnI)
def callF (tb : Str → Option Ent) : Nat → Callee
  | 0 => fun _ _ => .stuck
  | k + 1 => fun x rs => match tb x with
    | some (.fn d) => runFn d (callF tb k) rs
    | some (.init d) => runInit x d (callF tb k) rs
    | none => .stuck
def ofRes : Res → Mn Rv
  | .ok r => ret r
  | .exc x => fun ρ => .exc x ρ
  | .stuck => stk
def cCallG (G : List Rv → Res) (cs : Mn (List Rv)) : Mn Rv := bnd cs fun rs => ofRes (G rs)
abbrev cCall (F : Callee) (x : Str) (cs : Mn (List Rv)) : Mn Rv := cCallG (F x) cs
/-- the last arguments are defaults -/
abbrev cCallD (F : Callee) (x : Str) (dd : List D) (cs : Mn (List Rv)) : Mn Rv := cCallG (fun rs => F x (rs ++ dd.map Rv.val)) cs

/-! ### fields -/
def fldD (cs : List Str) (f : Str) : D → Option D
  | .obj c fs => if c ∈ cs then fs.lookup f else none
  | _ => none
def cFld (cs : List Str) (f : Str) (c : Mn Rv) : Mn Rv := bnd c fun r => bnd (ofO (fldD cs f r.d)) fun d => ret (.val d)
def putFD (f : Str) (v : D) : List (Str × D) → List (Str × D)
  | [] => [(f, v)]
  | (g, w) :: r => if g = f then (f, v) :: r else (g, w) :: putFD f v r
def putD (c : Str) (f : Str) (v : D) : D → Option D
  | .obj c' fs => if c' = c ∧ fs.length < 1000 then some (.obj c' (putFD f v fs)) else none
  | _ => none
/-- self.f = e -/
def cFldS (i : Nat) (c : Str) (f : Str) (e : Mn Rv) : Mn Fl := bnd (cV e) fun d => bnd (mutU i (putD c f d)) fun _ => ret .nx

/-! ### errors -/
def cRse (x : Str) : Mn Fl := fun ρ => .exc (x, []) ρ
/-- behind an except suite: its error is gone -/
def clean (ρ : En) : En := ρ.map fun s => match s with
  | .exn _ => .emp
  | s => s
def sufEnd (i : Nat) : Out Fl → Out Fl
  | .ok a ρ => .ok a ((clean ρ).set i .emp)
  | _ => .stuck
/-- try: body, except c as slot i: suite. su: which classes are of c -/
def cTry (body : Mn Fl) (su : Str → Option Bool) (i : Nat) (suite : Mn Fl) : Mn Fl := fun ρ => match body ρ with
  | .exc x ρ' => (match su x.1 with
    | some true => sufEnd i (suite (ρ'.set i (.exn x)))
    | some false => .exc x ρ'
    | none => .stuck)
  | o => o
/-- isinstance(e, c), e the suite's error -/
def cIsE (i : Nat) (su : Str → Option Bool) : Mn Rv := fun ρ => match ρ[i]? with
  | some (.exn x) => (match x.2, su x.1 with
    | [], some b => .ok (.val (.bl b)) ρ
    | _, _ => .stuck)
  | _ => .stuck
end CI
end
section
/-! CIRep: what plain data stand for in the abstract heap; states; steps. -/
namespace CI
open PySem L2

/-- the text behind the top: the written part, the module's names -/
structure Tx where
  K : PySem.W.Frag
  mg : Str → Option Value
  /-- the error that an except suite holds -/
  ex : Option (Addr × Obj)

mutual
/-- v stands for d, over the frozen heap Z -/
def Rep (T : Tx) (Z : Hp) : D → V → Prop
  | .non, v => v = .non
  | .bl b, v => v = .bl b
  | .int i, v => v = .int i
  | .str x, v => v = .str x
  | .tup ds, v => ∃ a vs, v = .ref a ∧ SqT T.K Z a vs ∧ Reps T Z ds vs
  | .lst ds, v => ∃ a vs, v = .ref a ∧ Rd Z a (.lst vs) ∧ Reps T Z ds vs
  | .dic kvs, v => ∃ a, v = .ref a ∧ ∃ es : List (Key × V), Z a = some (.dK es) ∧ RepK T Z kvs es
  | .obj c fs, v => ∃ a C dx gs, v = .ref a ∧ T.mg c = some (.ref C) ∧ Z a = some (.ins C dx gs) ∧ RepF T Z fs gs
  | .glo x, v => ∃ a, v = .ref a ∧ T.mg x = some (.ref a)
def Reps (T : Tx) (Z : Hp) : List D → List V → Prop
  | [], vs => vs = []
  | d :: ds, vs => ∃ v r, vs = v :: r ∧ Rep T Z d v ∧ Reps T Z ds r
def RepF (T : Tx) (Z : Hp) : List (Str × D) → List (Str × V) → Prop
  | [], vs => vs = []
  | (f, d) :: ds, vs => ∃ v r, vs = (f, v) :: r ∧ Rep T Z d v ∧ RepF T Z ds r
def RepK (T : Tx) (Z : Hp) : List (D × D) → List (Key × V) → Prop
  | [], vs => vs = []
  | (k, d) :: ds, vs => ∃ q v r, vs = (q, v) :: r ∧ Rep T Z k (kV q) ∧ Rep T Z d v ∧ RepK T Z ds r
end

abbrev Le (Z Z' : Hp) : Prop := ∀ a o, Z a = some o → Z' a = some o
theorem Le.refl (Z : Hp) : Le Z Z := fun _ _ h => h
theorem Le.trans {A B C : Hp} (h : Le A B) (k : Le B C) : Le A C := fun a o e => k a o (h a o e)
theorem Le.rd {Z Z' : Hp} (h : Le Z Z') {a : Addr} {u : HO} : Rd Z a u → Rd Z' a u
  | .inl e => .inl (h _ _ e)
  | .inr ⟨o, e⟩ => .inr ⟨o, h _ _ e⟩
theorem Le.sqL {K : PySem.W.Frag} {Z Z' : Hp} (h : Le Z Z') {a : Addr} {vs : List V} : SqL K Z a vs → SqL K Z' a vs
  | .inl r => .inl (h.rd r)
  | .inr e => .inr e
theorem Le.sqT {K : PySem.W.Frag} {Z Z' : Hp} (h : Le Z Z') {a : Addr} {vs : List V} : SqT K Z a vs → SqT K Z' a vs
  | .inl r => .inl (h.rd r)
  | .inr e => .inr e

mutual
theorem Rep.mono {T : Tx} {Z Z' : Hp} (h : Le Z Z') : ∀ {d : D} {v : V}, Rep T Z d v → Rep T Z' d v
  | .non, _, r => r
  | .bl _, _, r => r
  | .int _, _, r => r
  | .str _, _, r => r
  | .tup _, _, ⟨a, vs, e, q, r⟩ => ⟨a, vs, e, h.sqT q, Reps.mono h r⟩
  | .lst _, _, ⟨a, vs, e, q, r⟩ => ⟨a, vs, e, h.rd q, Reps.mono h r⟩
  | .dic _, _, ⟨a, e, es, q, r⟩ => ⟨a, e, es, h _ _ q, RepK.mono h r⟩
  | .obj _ _, _, ⟨a, C, dx, gs, e, m, q, r⟩ => ⟨a, C, dx, gs, e, m, h _ _ q, RepF.mono h r⟩
  | .glo _, _, r => r
theorem Reps.mono {T : Tx} {Z Z' : Hp} (h : Le Z Z') : ∀ {ds : List D} {vs : List V}, Reps T Z ds vs → Reps T Z' ds vs
  | [], _, r => r
  | _ :: _, _, ⟨v, r, e, q, s⟩ => ⟨v, r, e, Rep.mono h q, Reps.mono h s⟩
theorem RepF.mono {T : Tx} {Z Z' : Hp} (h : Le Z Z') : ∀ {ds : List (Str × D)} {vs : List (Str × V)}, RepF T Z ds vs → RepF T Z' ds vs
  | [], _, r => r
  | (_, _) :: _, _, ⟨v, r, e, q, s⟩ => ⟨v, r, e, Rep.mono h q, RepF.mono h s⟩
theorem RepK.mono {T : Tx} {Z Z' : Hp} (h : Le Z Z') : ∀ {ds : List (D × D)} {vs : List (Key × V)}, RepK T Z ds vs → RepK T Z' ds vs
  | [], _, r => r
  | (_, _) :: _, _, ⟨q, v, r, e, q1, q2, s⟩ => ⟨q, v, r, e, Rep.mono h q1, Rep.mono h q2, RepK.mono h s⟩
end
theorem Reps.length {T : Tx} {Z : Hp} : ∀ {ds : List D} {vs : List V}, Reps T Z ds vs → ds.length = vs.length
  | [], _, r => by rw [show _ = [] from r]; rfl
  | _ :: _, _, ⟨v, r, e, _, s⟩ => by rw [e, List.length_cons, List.length_cons, Reps.length s]
theorem Reps.get {T : Tx} {Z : Hp} : ∀ {ds : List D} {vs : List V} {i : Nat} {d : D}, Reps T Z ds vs → ds[i]? = some d → ∃ v, vs[i]? = some v ∧ Rep T Z d v
  | [], _, i, _, _, e => by simp at e
  | _ :: _, _, 0, _, ⟨v, r, e, q, s⟩, h => by simp at h; subst h; subst e; exact ⟨v, by simp, q⟩
  | _ :: _, _, i + 1, _, ⟨v, r, e, q, s⟩, h => by
    subst e
    obtain ⟨u, h1, h2⟩ := Reps.get (i := i) s (by simpa using h)
    exact ⟨u, by simpa using h1, h2⟩
theorem Reps.get' {T : Tx} {Z : Hp} : ∀ {ds : List D} {vs : List V} {i : Nat} {v : V}, Reps T Z ds vs → vs[i]? = some v → ∃ d, ds[i]? = some d ∧ Rep T Z d v := fun {ds vs i v} r e => by
  have hl := r.length
  have hi : i < vs.length := by
    rcases Nat.lt_or_ge i vs.length with h | h
    · exact h
    · rw [List.getElem?_eq_none h] at e; cases e
  obtain ⟨u, h1, h2⟩ := r.get (i := i) (d := ds[i]'(by omega)) (List.getElem?_eq_getElem (by omega))
  rw [e] at h1; cases h1
  exact ⟨_, List.getElem?_eq_getElem (by omega), h2⟩
theorem Reps.append {T : Tx} {Z : Hp} : ∀ {ds es : List D} {vs ws : List V}, Reps T Z ds vs → Reps T Z es ws → Reps T Z (ds ++ es) (vs ++ ws)
  | [], _, _, _, r, s => by rw [show _ = [] from r]; exact s
  | _ :: _, _, _, _, ⟨v, r, e, q, s⟩, t => ⟨v, r ++ _, by rw [e]; rfl, q, Reps.append s t⟩
theorem Reps.single {T : Tx} {Z : Hp} {d : D} {v : V} (h : Rep T Z d v) : Reps T Z [d] [v] := ⟨v, [], rfl, h, rfl⟩
theorem Reps.take {T : Tx} {Z : Hp} : ∀ {ds : List D} {vs : List V} (n : Nat), Reps T Z ds vs → Reps T Z (ds.take n) (vs.take n)
  | _, _, 0, _ => by simp [Reps]
  | [], _, n + 1, r => by rw [show _ = [] from r]; simp [Reps]
  | _ :: _, _, n + 1, ⟨v, r, e, q, s⟩ => by rw [e]; exact ⟨v, _, rfl, q, Reps.take n s⟩
theorem Reps.drop {T : Tx} {Z : Hp} : ∀ {ds : List D} {vs : List V} (n : Nat), Reps T Z ds vs → Reps T Z (ds.drop n) (vs.drop n)
  | _, _, 0, r => r
  | [], _, n + 1, r => by rw [show _ = [] from r]; simp [Reps]
  | _ :: _, _, n + 1, ⟨v, r, e, q, s⟩ => by rw [e]; exact Reps.drop n s
theorem Reps.set {T : Tx} {Z : Hp} {d : D} {v : V} (h : Rep T Z d v) : ∀ {ds : List D} {vs : List V} (i : Nat), Reps T Z ds vs → Reps T Z (ds.set i d) (vs.set i v)
  | [], _, _, r => by rw [show _ = [] from r]; simp [Reps]
  | _ :: _, _, 0, ⟨v', r, e, q, s⟩ => by rw [e]; exact ⟨v, r, rfl, h, s⟩
  | _ :: _, _, i + 1, ⟨v', r, e, q, s⟩ => by rw [e]; exact ⟨v', _, rfl, q, Reps.set h i s⟩
theorem Reps.reverse {T : Tx} {Z : Hp} : ∀ {ds : List D} {vs : List V}, Reps T Z ds vs → Reps T Z ds.reverse vs.reverse
  | [], _, r => by rw [show _ = [] from r]; simp [Reps]
  | _ :: _, _, ⟨v, r, e, q, s⟩ => by rw [e, List.reverse_cons, List.reverse_cons]; exact (Reps.reverse s).append (.single q)
theorem Reps.replicate {T : Tx} {Z : Hp} {ds : List D} {vs : List V} (h : Reps T Z ds vs) : ∀ n : Nat, Reps T Z (List.replicate n ds).flatten (List.replicate n vs).flatten
  | 0 => rfl
  | n + 1 => by rw [List.replicate_succ, List.replicate_succ, List.flatten_cons, List.flatten_cons]; exact h.append (Reps.replicate h n)
theorem RepF.length {T : Tx} {Z : Hp} : ∀ {ds : List (Str × D)} {vs : List (Str × V)}, RepF T Z ds vs → ds.length = vs.length
  | [], _, r => by rw [show _ = [] from r]; rfl
  | (_, _) :: _, _, ⟨v, r, e, _, s⟩ => by rw [e, List.length_cons, List.length_cons, RepF.length s]
theorem RepF.lookup {T : Tx} {Z : Hp} {f : Str} : ∀ {ds : List (Str × D)} {vs : List (Str × V)} {d : D}, RepF T Z ds vs → ds.lookup f = some d → ∃ v, vs.lookup f = some v ∧ Rep T Z d v
  | [], _, _, _, e => by simp at e
  | (g, d) :: ds, _, d', ⟨v, r, e, q, s⟩, h => by
    subst e
    rw [List.lookup_cons] at h ⊢
    cases hg : (f == g) with
    | true => rw [hg] at h; cases h; exact ⟨v, rfl, q⟩
    | false => rw [hg] at h; exact RepF.lookup s h
theorem RepF.lookup_none {T : Tx} {Z : Hp} {f : Str} : ∀ {ds : List (Str × D)} {vs : List (Str × V)}, RepF T Z ds vs → ds.lookup f = none → vs.lookup f = none
  | [], _, r, e => by rw [show _ = [] from r]; rfl
  | (g, d) :: ds, _, ⟨v, r, e, q, s⟩, h => by
    subst e
    rw [List.lookup_cons] at h ⊢
    cases hg : (f == g) with
    | true => rw [hg] at h; cases h
    | false => rw [hg] at h; exact RepF.lookup_none s h

/-- the object at a holds d; its parts are frozen -/
def OR (T : Tx) (H Z : Hp) (a : Addr) : D → Prop
  | .lst ds => ∃ vs, H a = some (.lst vs) ∧ Reps T Z ds vs
  | .dic kvs => ∃ es : List (Key × V), H a = some (.dK es) ∧ RepK T Z kvs es
  | .obj c fs => ∃ C dx gs, T.mg c = some (.ref C) ∧ H a = some (.ins C dx gs) ∧ RepF T Z fs gs
  | _ => False
theorem OR.there {T : Tx} {H Z : Hp} {a : Addr} {d : D} (h : OR T H Z a d) : ∃ o, H a = some o := by
  cases d with
  | lst _ => obtain ⟨_, e, _⟩ := h; exact ⟨_, e⟩
  | dic _ => obtain ⟨_, e, _⟩ := h; exact ⟨_, e⟩
  | obj _ _ => obtain ⟨_, _, _, _, e, _⟩ := h; exact ⟨_, e⟩
  | _ => exact h.elim
theorem OR.mut {T : Tx} {H Z : Hp} {a : Addr} {d : D} (h : OR T H Z a d) : Mut (H a) := by
  cases d with
  | lst _ => obtain ⟨_, e, _⟩ := h; rw [e]; trivial
  | dic _ => obtain ⟨_, e, _⟩ := h; rw [e]; trivial
  | obj _ _ => obtain ⟨_, _, _, _, e, _⟩ := h; rw [e]; trivial
  | _ => exact h.elim
theorem OR.mono {T : Tx} {H H' Z Z' : Hp} {a : Addr} {d : D} (h : OR T H Z a d) (e : H' a = H a) (z : Le Z Z') : OR T H' Z' a d := by
  cases d with
  | lst _ => obtain ⟨vs, q, r⟩ := h; exact ⟨vs, e.trans q, r.mono z⟩
  | dic _ => obtain ⟨vs, q, r⟩ := h; exact ⟨vs, e.trans q, r.mono z⟩
  | obj _ _ => obtain ⟨C, dx, gs, m, q, r⟩ := h; exact ⟨C, dx, gs, m, e.trans q, r.mono z⟩
  | _ => exact h.elim
/-- frozen from now on -/
theorem OR.rep {T : Tx} {H Z : Hp} {a : Addr} {d : D} {o : HO} (h : OR T H Z a d) (e : Z a = some o) (e' : H a = some o) : Rep T Z d (.ref a) := by
  cases d with
  | lst _ => obtain ⟨vs, q, r⟩ := h; rw [q] at e'; cases e'; exact ⟨a, vs, rfl, .inl e, r⟩
  | dic _ => obtain ⟨vs, q, r⟩ := h; rw [q] at e'; cases e'; exact ⟨a, rfl, vs, e, r⟩
  | obj _ _ => obtain ⟨C, dx, gs, m, q, r⟩ := h; rw [q] at e'; cases e'; exact ⟨a, C, dx, gs, rfl, m, e, r⟩
  | _ => exact h.elim

/-- a slot that holds the suite's error -/
def XSl (T : Tx) (Z : Hp) (x : Exc) (v : Option (Option V)) : Prop := ∃ a oe C, T.ex = some (a, oe) ∧ v = some (some (.ref a)) ∧ T.mg x.1 = some (.ref C) ∧ oe.cls = .ref C ∧ (∃ vs, oe.data = .fields vs) ∧
  ((x.2 = [] ∧ oe.dict = none) ∨ x.2 ≠ [] ∧ ∃ dd gs, oe.dict = some dd ∧ Z dd = some (.xd gs) ∧ RepF T Z x.2 gs)
theorem XSl.mono {T : Tx} {Z Z' : Hp} {x : Exc} {v : Option (Option V)} (h : XSl T Z x v) (s : Le Z Z') : XSl T Z' x v := by
  obtain ⟨a, oe, C, h1, h2, h3, h4, h5, h6⟩ := h
  exact ⟨a, oe, C, h1, h2, h3, h4, h5, h6.elim .inl fun ⟨n, dd, gs, e, z, r⟩ => .inr ⟨n, dd, gs, e, s _ _ z, r.mono s⟩⟩
def SlOk (T : Tx) (H Z : Hp) (x : Option (Option V)) : Sl → Prop
  | .emp => True
  | .val d => ∃ v, x = some (some v) ∧ Rep T Z d v
  | .own d => ∃ a, x = some (some (.ref a)) ∧ OR T H Z a d ∧ Z a = none
  | .bor d => ∃ a, x = some (some (.ref a)) ∧ OR T H Z a d
  | .exn y => XSl T Z y x
/-- a is held by an own slot; by an own or a borrowed one -/
def OwnA (ρ : En) (σ : L2.St) (a : Addr) : Prop := ∃ (i : Nat) (d : D), ρ[i]? = some (.own d) ∧ σ[i]? = some (some (.ref a))
def BorA (ρ : En) (σ : L2.St) (a : Addr) : Prop := ∃ (i : Nat) (d : D), ρ[i]? = some (.bor d) ∧ σ[i]? = some (some (.ref a))

/-- a state: the slots, the heap, the frozen heap -/
structure SOk (T : Tx) (ρ : En) (σ : L2.St) (H Z : Hp) : Prop where
  len : ρ.length = σ.length
  sub : Le Z H
  slot : ∀ (i : Nat) (s : Sl), ρ[i]? = some s → SlOk T H Z σ[i]? s
  inj : ∀ (i j : Nat) (d d' : D) (a : Addr), ρ[i]? = some (.own d) → ρ[j]? = some (.own d') → σ[i]? = some (some (.ref a)) → σ[j]? = some (some (.ref a)) → i = j
  sep : ∀ a, OwnA ρ σ a → BorA ρ σ a → False
theorem SOk.own {T : Tx} {ρ : En} {σ : L2.St} {H Z : Hp} (S : SOk T ρ σ H Z) {a : Addr} (h : OwnA ρ σ a) : Z a = none ∧ ∃ o, H a = some o := by
  obtain ⟨i, d, h1, h2⟩ := h
  obtain ⟨b, e, r, z⟩ := S.slot i _ h1
  rw [h2] at e; cases e
  exact ⟨z, r.there⟩
theorem SOk.bor {T : Tx} {ρ : En} {σ : L2.St} {H Z : Hp} (S : SOk T ρ σ H Z) {a : Addr} (h : BorA ρ σ a) : ∃ o, H a = some o := by
  obtain ⟨i, d, h1, h2⟩ := h
  obtain ⟨b, e, r⟩ := S.slot i _ h1
  rw [h2] at e; cases e
  exact r.there

/-- from one state to a later one -/
structure Step (ρ : En) (σ : L2.St) (H Z : Hp) (ρ' : En) (σ' : L2.St) (H' Z' : Hp) : Prop where
  frame : ∀ a o, H a = some o → ¬ OwnA ρ σ a → H' a = some o
  le : Le Z Z'
  grow : ∀ a o, Z' a = some o → Z a = some o ∨ H a = none ∨ OwnA ρ σ a
  own : ∀ a, OwnA ρ' σ' a → OwnA ρ σ a ∨ H a = none
  kept : ∀ a, (∃ o, H a = some o) → ∃ o, H' a = some o
  bor : ∀ (i : Nat) (d : D), ρ'[i]? = some (.bor d) → ρ[i]? = some (.bor d) ∧ σ'[i]? = σ[i]?
  obj : ∀ (i : Nat) (d : D), ρ'[i]? = some (.own d) → isObj d = true → (∃ d0, ρ[i]? = some (.own d0) ∧ isObj d0 = true) ∧ σ'[i]? = σ[i]?
theorem Step.refl (ρ : En) (σ : L2.St) (H Z : Hp) : Step ρ σ H Z ρ σ H Z :=
  ⟨fun _ _ h _ => h, .refl Z, fun _ _ h => .inl h, fun _ h => .inl h, fun _ h => h, fun _ _ h => ⟨h, rfl⟩, fun _ d h o => ⟨⟨d, h, o⟩, rfl⟩⟩
theorem none_of_kept {H H' : Hp} (k : ∀ a, (∃ o, H a = some o) → ∃ o, H' a = some o) {a : Addr} (h : H' a = none) : H a = none := by
  cases e : H a with
  | none => rfl
  | some o => obtain ⟨o', q⟩ := k a ⟨o, e⟩; rw [h] at q; cases q
theorem Step.trans {ρ ρ1 ρ2 : En} {σ σ1 σ2 : L2.St} {H H1 H2 Z Z1 Z2 : Hp} (s : Step ρ σ H Z ρ1 σ1 H1 Z1) (t : Step ρ1 σ1 H1 Z1 ρ2 σ2 H2 Z2) : Step ρ σ H Z ρ2 σ2 H2 Z2 where
  frame := fun a o h n => t.frame a o (s.frame a o h n) fun q => (s.own a q).elim n fun z => by rw [h] at z; cases z
  le := s.le.trans t.le
  grow := fun a o h => (t.grow a o h).elim (fun q => s.grow a o q) fun q => q.elim (fun z => .inr (.inl (none_of_kept s.kept z))) fun z => (s.own a z).elim (fun y => .inr (.inr y)) fun y => .inr (.inl y)
  own := fun a h => (t.own a h).elim (fun q => s.own a q) fun z => .inr (none_of_kept s.kept z)
  kept := fun a h => t.kept a (s.kept a h)
  bor := fun i d h => by
    obtain ⟨h1, e1⟩ := t.bor i d h
    obtain ⟨h2, e2⟩ := s.bor i d h1
    exact ⟨h2, e1.trans e2⟩
  obj := fun i d h o => by
    obtain ⟨⟨d1, h1, o1⟩, e1⟩ := t.obj i d h o
    obtain ⟨h2, e2⟩ := s.obj i d1 h1 o1
    exact ⟨h2, e1.trans e2⟩
/-- .. of an expression: no object changes, no slot -/
structure EStep (ρ : En) (σ : L2.St) (H Z : Hp) (ρ' : En) (H' Z' : Hp) : Prop where
  step : Step ρ σ H Z ρ' σ H' Z'
  same : Le H H'
  len : ρ'.length = ρ.length
  ownE : ∀ a, OwnA ρ' σ a → OwnA ρ σ a
theorem EStep.refl (ρ : En) (σ : L2.St) (H Z : Hp) : EStep ρ σ H Z ρ H Z := ⟨.refl _ _ _ _, .refl _, rfl, fun _ h => h⟩
theorem EStep.trans {ρ ρ1 ρ2 : En} {σ : L2.St} {H H1 H2 Z Z1 Z2 : Hp} (s : EStep ρ σ H Z ρ1 H1 Z1) (t : EStep ρ1 σ H1 Z1 ρ2 H2 Z2) : EStep ρ σ H Z ρ2 H2 Z2 :=
  ⟨s.step.trans t.step, s.same.trans t.same, t.len.trans s.len, fun a h => s.ownE a (t.ownE a h)⟩

/-- a result's value. H: the heap ahead of it -/
def RvOk (T : Tx) (ρ : En) (σ : L2.St) (H : Hp) (ρ' : En) (H' Z' : Hp) (v : V) : Rv → Prop
  | .val d => Rep T Z' d v
  | .own d => ∃ a, v = .ref a ∧ OR T H' Z' a d ∧ Z' a = none ∧ (H a = none ∨ OwnA ρ σ a) ∧ ¬ OwnA ρ' σ a ∧ ¬ BorA ρ' σ a ∧ isObj d = false
  | .bor d => ∃ a, v = .ref a ∧ OR T H' Z' a d
/-- what can be read at v -/
def RdOk (T : Tx) (H Z : Hp) (v : V) (d : D) : Prop := Rep T Z d v ∨ ∃ a, v = .ref a ∧ OR T H Z a d
theorem RvOk.read {T : Tx} {ρ ρ' : En} {σ : L2.St} {H H' Z' : Hp} {v : V} {r : Rv} (h : RvOk T ρ σ H ρ' H' Z' v r) : RdOk T H' Z' v r.d := by
  cases r with
  | val d => exact .inl h
  | own d => obtain ⟨a, e, r, _⟩ := h; exact .inr ⟨a, e, r⟩
  | bor d => obtain ⟨a, e, r⟩ := h; exact .inr ⟨a, e, r⟩
theorem RdOk.mono {T : Tx} {H H' Z Z' : Hp} {v : V} {d : D} (h : RdOk T H Z v d) (s : Le H H') (z : Le Z Z') : RdOk T H' Z' v d := by
  rcases h with h | ⟨a, e, h⟩
  · exact .inl (h.mono z)
  · obtain ⟨o, q⟩ := h.there
    exact .inr ⟨a, e, h.mono ((s a o q).trans q.symm) z⟩
/-- Z at a new or own address: frozen there as H has it -/
def frz (Z H : Hp) (a : Addr) : Hp := fun b => if b = a then H a else Z b
theorem frz_le {Z H : Hp} {a : Addr} (h : Z a = none) : Le Z (frz Z H a) := fun b o e => by
  unfold frz
  by_cases hb : b = a
  · subst hb; rw [h] at e; cases e
  · rw [if_neg hb]; exact e
theorem frz_at {Z H : Hp} {a : Addr} : frz Z H a a = H a := by unfold frz; rw [if_pos rfl]
theorem frz_ne {Z H : Hp} {a b : Addr} (h : b ≠ a) : frz Z H a b = Z b := by unfold frz; rw [if_neg h]
theorem frz_sub {Z H : Hp} {a : Addr} (h : Le Z H) : Le (frz Z H a) H := fun b o e => by
  unfold frz at e
  by_cases hb : b = a
  · subst hb; rw [if_pos rfl] at e; exact e
  · rw [if_neg hb] at e; exact h b o e
end CI
end
section
/-! CISnd: judgements, composition. -/
namespace CI
open PySem L2 PyProof.Rows

abbrev tx (X : Cx) : Tx := ⟨X.K, X.mg, match X.calm with
  | true => none
  | false => X.pn.head?⟩
abbrev tx0 (X : Cx) : Tx := ⟨X.K, X.mg, none⟩
theorem tx_calm {X : Cx} (hc : X.calm = true) : tx X = tx0 X := by unfold tx tx0; rw [hc]
/-- an exception: its class, its own dict -/
def XOk (T : Tx) (Z : Hp) (x : Exc) (cls : Value) (d : Option Addr) : Prop :=
  ∃ C, T.mg x.1 = some (.ref C) ∧ cls = .ref C ∧ ((x.2 = [] ∧ d = none) ∨ x.2 ≠ [] ∧ ∃ a gs, d = some a ∧ Z a = some (.xd gs) ∧ RepF T Z x.2 gs)

/-- a kind of results: what a result says of what the model hands back -/
structure Kd (α β : Type) where
  ok : Tx → En → L2.St → Hp → En → Hp → Hp → β → α → Prop
  base : ∀ {T ρ σ H Z ρ1 H1 Z1 ρ' H' Z' b a}, EStep ρ σ H Z ρ1 H1 Z1 → ok T ρ1 σ H1 ρ' H' Z' b a → ok T ρ σ H ρ' H' Z' b a
theorem own_base {ρ ρ1 : En} {σ σ1 : L2.St} {H H1 Z Z1 : Hp} (s : Step ρ σ H Z ρ1 σ1 H1 Z1) {a : Addr} (h : H1 a = none ∨ OwnA ρ1 σ1 a) : H a = none ∨ OwnA ρ σ a :=
  h.elim (fun z => .inl (none_of_kept s.kept z)) fun q => (s.own a q).elim .inr .inl
def kE : Kd Rv V where
  ok := fun T ρ σ H ρ' H' Z' v r => RvOk T ρ σ H ρ' H' Z' v r
  base := fun {T ρ σ H Z ρ1 H1 Z1 ρ' H' Z' b a} s h => by
    cases a with
    | val d => exact h
    | bor d => exact h
    | own d =>
      obtain ⟨p, e, r, z, n, o1, o2, o3⟩ := h
      exact ⟨p, e, r, z, own_base s.step n, o1, o2, o3⟩
def kB : Kd Bool Bool := ⟨fun _ _ _ _ _ _ _ b c => b = c, fun _ h => h⟩
/-- data kept -/
def kD : Kd D V := ⟨fun T _ _ _ _ _ Z' v d => Rep T Z' d v, fun _ h => h⟩
/-- data kept, many -/
def kDs : Kd (List D) (List V) := ⟨fun T _ _ _ _ _ Z' vs ds => Reps T Z' ds vs, fun _ h => h⟩
/-- arguments -/
def ArgOk (T : Tx) (H Z : Hp) (v : V) : Rv → Prop
  | .val d => Rep T Z d v
  | .own _ => False
  | .bor d => ∃ a, v = .ref a ∧ OR T H Z a d
def ArgsOk (T : Tx) (H Z : Hp) : List V → List Rv → Prop
  | [], [] => True
  | v :: vs, r :: rs => ArgOk T H Z v r ∧ ArgsOk T H Z vs rs
  | _, _ => False
def kA : Kd (List Rv) (List V) := ⟨fun T _ _ _ _ H' Z' vs rs => ArgsOk T H' Z' vs rs, fun _ h => h⟩
theorem ArgOk.mono {T : Tx} {H H' Z Z' : Hp} {v : V} {r : Rv} (h : ArgOk T H Z v r) (s : Le H H') (z : Le Z Z') : ArgOk T H' Z' v r := by
  cases r with
  | val d => exact Rep.mono z h
  | own d => exact h
  | bor d =>
    obtain ⟨a, e, r⟩ := h
    obtain ⟨o, q⟩ := r.there
    exact ⟨a, e, r.mono ((s a o q).trans q.symm) z⟩
theorem ArgsOk.mono {T : Tx} {H H' Z Z' : Hp} : ∀ {vs : List V} {rs : List Rv}, ArgsOk T H Z vs rs → Le H H' → Le Z Z' → ArgsOk T H' Z' vs rs
  | [], [], _, _, _ => trivial
  | _ :: _, _ :: _, h, s, z => ⟨h.1.mono s z, ArgsOk.mono h.2 s z⟩
  | [], _ :: _, h, _, _ => h.elim
  | _ :: _, [], h, _, _ => h.elim
theorem ArgsOk.length {T : Tx} {H Z : Hp} : ∀ {vs : List V} {rs : List Rv}, ArgsOk T H Z vs rs → vs.length = rs.length
  | [], [], _ => rfl
  | _ :: _, _ :: _, h => by rw [List.length_cons, List.length_cons, ArgsOk.length h.2]
  | [], _ :: _, h => h.elim
  | _ :: _, [], h => h.elim

section
variable {α β γ δ : Type} {T : Tx} {ρ ρ1 : En} {σ : L2.St} {H H1 Z Z1 : Hp} {W : WX}
/-- what is wanted behind an outcome -/
def Po (k : Kd α β) (T : Tx) (ρ : En) (σ : L2.St) (H Z : Hp) (o : Out α) (W : WX) (Q : β → Hp → Prop) : Prop := match o with
  | .ok a ρ' => ∀ b H' Z', SOk T ρ' σ H' Z' → EStep ρ σ H Z ρ' H' Z' → k.ok T ρ σ H ρ' H' Z' b a → Q b H'
  | .exc x ρ' => ∀ cls d H' Z', SOk T ρ' σ H' Z' → EStep ρ σ H Z ρ' H' Z' → XOk T Z' x cls d → W cls d σ H'
  | .stuck => False
theorem Po.later {k : Kd α β} {o : Out α} {Q : β → Hp → Prop} (h : Po k T ρ σ H Z o W Q) (s : EStep ρ σ H Z ρ1 H1 Z1) : Po k T ρ1 σ H1 Z1 o W Q := by
  cases o with
  | ok a ρ' => exact fun b H' Z' S E q => h b H' Z' S (s.trans E) (k.base s q)
  | exc x ρ' => exact fun cls d H' Z' S E q => h cls d H' Z' S (s.trans E) q
  | stuck => exact h
theorem Po.bnd {k1 : Kd α β} {k2 : Kd γ δ} {m : Mn α} {f : α → Mn γ} {Q : δ → Hp → Prop} {R : β → Hp → Prop} (h : Po k2 T ρ σ H Z (bnd m f ρ) W Q)
    (hk : ∀ r b ρ1 H1 Z1, SOk T ρ1 σ H1 Z1 → EStep ρ σ H Z ρ1 H1 Z1 → k1.ok T ρ σ H ρ1 H1 Z1 b r → Po k2 T ρ1 σ H1 Z1 (f r ρ1) W Q → R b H1) : Po k1 T ρ σ H Z (m ρ) W R := by
  unfold CI.bnd at h
  cases e : m ρ with
  | ok a ρ' => rw [e] at h; exact fun b H' Z' S E q => hk a b ρ' H' Z' S E q (h.later E)
  | exc x ρ' => rw [e] at h; exact h
  | stuck => rw [e] at h; exact h
theorem Po.out {k : Kd α β} {a : α} {b : β} {Q : β → Hp → Prop} (h : Po k T ρ σ H Z (ret a ρ) W Q) (S : SOk T ρ σ H Z) (q : k.ok T ρ σ H ρ H Z b a) : Q b H := h b H Z S (.refl _ _ _ _) q
theorem Po.ofO {k : Kd α β} {o : Option α} {Q : β → Hp → Prop} (h : Po k T ρ σ H Z (CI.ofO o ρ) W Q) : ∃ a, o = some a ∧ Po k T ρ σ H Z (ret a ρ) W Q := by
  cases o with
  | none => exact h.elim
  | some a => exact ⟨a, rfl, h⟩
/-- the reading of a construct -/
def tK (k : Kd α β) (T : Tx) (W : WX) (c : Mn α) : L2.St → Hp → (β → Hp → Prop) → Prop := fun σ H Q => ∃ ρ Z, SOk T ρ σ H Z ∧ Po k T ρ σ H Z (c ρ) W Q
end

/-- an expression, a test, arguments -/
structure SE (X : Cx) (e : Expr) (c : Mn Rv) : Prop where
  run : ∀ W, Takes X W → PE X e (tK kE (tx X) W c)
structure STt (X : Cx) (e : Expr) (c : Mn Bool) : Prop where
  run : ∀ W, Takes X W → PT X e (tK kB (tx X) W c)
structure SA (X : Cx) (es : List Expr) (c : Mn (List Rv)) : Prop where
  run : ∀ W, Takes X W → PA X es (tK kA (tx X) W c)
structure SDs (X : Cx) (es : List Expr) (c : Mn (List D)) : Prop where
  run : ∀ W, Takes X W → PA X es (tK kDs (tx X) W c)
structure SD (X : Cx) (e : Expr) (c : Mn D) : Prop where
  run : ∀ W, Takes X W → PE X e (tK kD (tx X) W c)

section
variable {X : Cx} {e : Expr} {t u : TE}
theorem peI (h : PE X e t) (k : ∀ σ H Q, u σ H Q → t σ H Q) : PE X e u := ⟨fun pins s σ H Q I q => h.run pins s σ H Q I (k σ H Q q)⟩
theorem ptI {t u : TT} (h : PT X e t) (k : ∀ σ H Q, u σ H Q → t σ H Q) : PT X e u := ⟨fun pins s σ H Q I q => h.run pins s σ H Q I (k σ H Q q)⟩
theorem paI {es : List Expr} {t u : TA} (h : PA X es t) (k : ∀ σ H Q, u σ H Q → t σ H Q) : PA X es u := ⟨fun pos pins s σ H Q I q => h.run pos pins s σ H Q I (k σ H Q q)⟩
theorem psI {st : Stmt} {t u : TS} (h : PS X st t) (k : ∀ D σ H, u D σ H → t D σ H) : PS X st u := ⟨fun pins s σ H D I q => h.run pins s σ H D I (k D σ H q)⟩
theorem pssI {st : List Stmt} {t u : TS} (h : PSs X st t) (k : ∀ D σ H, u D σ H → t D σ H) : PSs X st u := ⟨fun pins s σ H D I q => h.run pins s σ H D I (k D σ H q)⟩
end

/-! ### new objects, freezing -/
section
variable {T : Tx} {ρ : En} {σ : L2.St} {H Z : Hp} {p : Addr} {o : HO}
theorem upd_le (hp : H p = none) : Le H (upd H p o) := fun a u e => by rw [upd_ne (ne_of_none e hp)]; exact e
theorem SOk.slots {T : Tx} {ρ : En} {σ : L2.St} {H Z H' Z' : Hp} (S : SOk T ρ σ H Z) (hs : Le Z' H') (hH : Le H H') (hZ : Le Z Z') (hn : ∀ a, OwnA ρ σ a → Z' a = none) : SOk T ρ σ H' Z' := by
  refine ⟨S.len, hs, fun i s h => ?_, S.inj, S.sep⟩
  have q := S.slot i s h
  cases s with
  | emp => trivial
  | exn x => exact XSl.mono q hZ
  | val d => obtain ⟨v, e, r⟩ := q; exact ⟨v, e, r.mono hZ⟩
  | own d =>
    obtain ⟨a, e, r, z⟩ := q
    obtain ⟨u, hu⟩ := r.there
    exact ⟨a, e, r.mono ((hH a u hu).trans hu.symm) hZ, hn a ⟨i, d, h, e⟩⟩
  | bor d =>
    obtain ⟨a, e, r⟩ := q
    obtain ⟨u, hu⟩ := r.there
    exact ⟨a, e, r.mono ((hH a u hu).trans hu.symm) hZ⟩
/-- a new object, not frozen -/
theorem SOk.new (S : SOk T ρ σ H Z) (hp : H p = none) : SOk T ρ σ (upd H p o) Z :=
  S.slots (S.sub.trans (upd_le hp)) (upd_le hp) (.refl _) fun a h => (S.own h).1
theorem EStep.new (hp : H p = none) : EStep ρ σ H Z ρ (upd H p o) Z :=
  ⟨⟨fun a u e _ => upd_le hp a u e, .refl _, fun a u e => .inl e, fun a h => .inl h, fun a ⟨u, e⟩ => ⟨u, upd_le hp a u e⟩, fun i d h => ⟨h, rfl⟩, fun _ d h o => ⟨⟨d, h, o⟩, rfl⟩⟩, upd_le hp, rfl, fun _ h => h⟩
theorem SOk.zfree (S : SOk T ρ σ H Z) (hp : H p = none) : Z p = none := by
  cases e : Z p with
  | none => rfl
  | some u => rw [S.sub p u e] at hp; cases hp
theorem SOk.notOwn (S : SOk T ρ σ H Z) (hp : H p = none) : ¬ OwnA ρ σ p := fun h => by
  obtain ⟨_, u, e⟩ := S.own h
  rw [e] at hp; cases hp
theorem SOk.notBor (S : SOk T ρ σ H Z) (hp : H p = none) : ¬ BorA ρ σ p := fun h => by
  obtain ⟨u, e⟩ := S.bor h
  rw [e] at hp; cases hp
/-- .. frozen at once -/
theorem SOk.newZ (S : SOk T ρ σ H Z) (hp : H p = none) : SOk T ρ σ (upd H p o) (upd Z p o) := by
  refine S.slots (fun a u e => ?_) (upd_le hp) (upd_le (S.zfree hp)) fun a h => ?_
  · by_cases ha : a = p
    · subst ha; rw [upd_same] at e ⊢; exact e
    · rw [upd_ne ha] at e ⊢; exact S.sub a u e
  · have ha : a ≠ p := fun z => S.notOwn hp (z ▸ h)
    rw [upd_ne ha]
    exact (S.own h).1
theorem EStep.newZ (S : SOk T ρ σ H Z) (hp : H p = none) : EStep ρ σ H Z ρ (upd H p o) (upd Z p o) :=
  ⟨⟨fun a u e _ => upd_le hp a u e, upd_le (S.zfree hp), fun a u e => by
    by_cases ha : a = p
    · subst ha; exact .inr (.inl hp)
    · rw [upd_ne ha] at e; exact .inl e, fun a h => .inl h, fun a ⟨u, e⟩ => ⟨u, upd_le hp a u e⟩, fun i d h => ⟨h, rfl⟩, fun _ d h o => ⟨⟨d, h, o⟩, rfl⟩⟩, upd_le hp, rfl, fun _ h => h⟩
/-- a fresh list, as a result -/
theorem rv_lst (S : SOk T ρ σ H Z) (hp : H p = none) {ds : List D} {vs : List V} (r : Reps T Z ds vs) : RvOk T ρ σ H ρ (upd H p (.lst vs)) Z (.ref p) (.own (.lst ds)) :=
  ⟨p, rfl, ⟨vs, upd_same, r⟩, S.zfree hp, .inl hp, S.notOwn hp, S.notBor hp, rfl⟩
theorem rv_tup (S : SOk T ρ σ H Z) (hp : H p = none) {ds : List D} {vs : List V} (r : Reps T Z ds vs) : Rep T (upd Z p (.tup vs)) (.tup ds) (.ref p) :=
  ⟨p, vs, rfl, .of upd_same, r.mono (upd_le (S.zfree hp))⟩
/-- what is not frozen and not in a slot is frozen -/
theorem SOk.freeze (S : SOk T ρ σ H Z) (hz : Z p = none) (ho : ¬ OwnA ρ σ p) : SOk T ρ σ H (frz Z H p) :=
  S.slots (frz_sub S.sub) (.refl _) (frz_le hz) fun a h => by
    have ha : a ≠ p := fun z => ho (z ▸ h)
    rw [frz_ne ha]
    exact (S.own h).1
theorem OwnA.set_out {i : Nat} {s : Sl} {a : Addr} (hs : ∀ d, s ≠ .own d) (h : OwnA (ρ.set i s) σ a) : OwnA ρ σ a := by
  obtain ⟨j, d, h1, h2⟩ := h
  by_cases hj : i = j
  · subst hj
    by_cases hl : i < ρ.length
    · rw [List.getElem?_set_self hl] at h1; exact absurd (Option.some.inj h1) (hs d)
    · rw [List.getElem?_eq_none (by simpa using hl)] at h1; cases h1
  · rw [List.getElem?_set_ne hj] at h1
    exact ⟨j, d, h1, h2⟩
end
end CI
end
section
/-! CIExp: names, constants, operators, tests, arguments, displays. -/
namespace CI
open PySem L2 PyProof.Rows
section
variable {X : Cx} {e a b : Expr} {c ca cb : Mn Rv} {pos : Pos} {i : Nat} {x : Str}
theorem tE_of {k : Kd α β} {t : L2.St → Hp → (β → Hp → Prop) → Prop} {T : Tx} {W : WX} {m : Mn α} (h : ∀ ρ σ H Z Q, SOk T ρ σ H Z → Po k T ρ σ H Z (m ρ) W Q → t σ H Q) : ∀ σ H Q, tK k T W m σ H Q → t σ H Q := fun σ H Q ⟨ρ, Z, S, p⟩ => h ρ σ H Z Q S p

/-! names -/
theorem SOk.slotAt {T : Tx} {ρ : En} {σ : L2.St} {H Z : Hp} (S : SOk T ρ σ H Z) {s : Sl} (h : ρ[i]? = some s) : SlOk T H Z σ[i]? s := S.slot i s h
theorem se_var (hN : X.N[i]? = some x) (hv : Vis X.env.scope x) (hd : (x == ("__debug__" : Str)) = false := by decide) (hcd : (x == ("__classdict__" : Str)) = false := by decide) : SE X (.Name x pos) (cVar i) := by
  refine ⟨fun W tk => peI (pe_var hN hv hd hcd) (tE_of fun ρ σ H Z Q S p => ?_)⟩
  unfold cVar at p
  cases q : ρ[i]? with
  | none => rw [q] at p; exact p.elim
  | some s =>
    have z := S.slotAt q
    rw [q] at p
    cases s with
    | emp => exact p.elim
    | exn _ => exact p.elim
    | val d =>
      obtain ⟨v, ev, r⟩ := z
      exact ⟨v, ev, Po.out (k := kE) (a := .val d) p S r⟩
    | own d =>
      obtain ⟨a, ev, r, _⟩ := z
      exact ⟨_, ev, Po.out (k := kE) (a := .bor d) p S ⟨a, rfl, r⟩⟩
    | bor d =>
      obtain ⟨a, ev, r⟩ := z
      exact ⟨_, ev, Po.out (k := kE) (a := .bor d) p S ⟨a, rfl, r⟩⟩
theorem set_get_ne {ρ : En} {s : Sl} {j : Nat} (h : i ≠ j) : (ρ.set i s)[j]? = ρ[j]? := List.getElem?_set_ne h
theorem set_get {ρ : En} {s s' : Sl} {j : Nat} (h : (ρ.set i s)[j]? = some s') : (i = j ∧ s' = s) ∨ (i ≠ j ∧ ρ[j]? = some s') := by
  by_cases hj : i = j
  · subst hj
    by_cases hl : i < ρ.length
    · rw [List.getElem?_set_self hl] at h; exact .inl ⟨rfl, (Option.some.inj h).symm⟩
    · rw [List.getElem?_eq_none (by simpa using hl)] at h; cases h
  · rw [List.getElem?_set_ne hj] at h; exact .inr ⟨hj, h⟩
theorem BorA.set_out {ρ : En} {σ : L2.St} {s : Sl} {a : Addr} (hs : ∀ d, s ≠ .bor d) (h : BorA (ρ.set i s) σ a) : BorA ρ σ a := by
  obtain ⟨j, d, h1, h2⟩ := h
  rcases set_get h1 with ⟨_, e⟩ | ⟨_, e⟩
  · exact absurd e.symm (hs d)
  · exact ⟨j, d, e, h2⟩
/-- slot i, an own one, is left: emptied, or frozen -/
theorem SOk.leave {T : Tx} {ρ : En} {σ : L2.St} {H Z : Hp} (S : SOk T ρ σ H Z) {d : D} {a : Addr} {s : Sl} {Z' : Hp} (h : ρ[i]? = some (.own d)) (ha : σ[i]? = some (some (.ref a)))
    (hs : s = .emp ∨ s = .val d) (hz : Le Z' H) (hle : Le Z Z') (hn : ∀ b, b ≠ a → Z' b = Z b) (hr : s = .val d → Rep T Z' d (.ref a)) : SOk T (ρ.set i s) σ H Z' := by
  have no : ∀ d', s ≠ .own d' := fun d' z => by rcases hs with e | e <;> rw [e] at z <;> cases z
  have nb : ∀ d', s ≠ .bor d' := fun d' z => by rcases hs with e | e <;> rw [e] at z <;> cases z
  have apart : ∀ (j : Nat) (d' : D) (b : Addr), i ≠ j → ρ[j]? = some (.own d') → σ[j]? = some (some (.ref b)) → b ≠ a := fun j d' b hj h1 h2 z => by
    subst z; exact hj (S.inj i j d d' b h h1 ha h2)
  refine ⟨by rw [List.length_set]; exact S.len, hz, fun j s' hj => ?_, fun j k d1 d2 b h1 h2 => ?_, fun b hb hc => S.sep b (hb.set_out no) (hc.set_out nb)⟩
  · rcases set_get hj with ⟨rfl, rfl⟩ | ⟨hne, hj⟩
    · rcases hs with rfl | rfl
      · trivial
      · exact ⟨_, ha, hr rfl⟩
    · have z := S.slot j s' hj
      cases s' with
      | emp => trivial
      | exn _ => exact XSl.mono z hle
      | val d' => obtain ⟨v, e, r⟩ := z; exact ⟨v, e, r.mono hle⟩
      | own d' =>
        obtain ⟨b, e, r, zn⟩ := z
        exact ⟨b, e, r.mono rfl hle, by rw [hn b (apart j d' b hne hj e)]; exact zn⟩
      | bor d' => obtain ⟨b, e, r⟩ := z; exact ⟨b, e, r.mono rfl hle⟩
  · rcases set_get h1 with ⟨rfl, e⟩ | ⟨_, h1⟩
    · exact absurd e.symm (no d1)
    · rcases set_get h2 with ⟨rfl, e⟩ | ⟨_, h2⟩
      · exact absurd e.symm (no d2)
      · exact S.inj j k d1 d2 b h1 h2
theorem EStep.leave {T : Tx} {ρ : En} {σ : L2.St} {H Z : Hp} {s : Sl} {Z' : Hp} {a : Addr} {d : D} (h : ρ[i]? = some (.own d)) (ha : σ[i]? = some (some (.ref a))) (no : ∀ d', s ≠ .own d') (nb : ∀ d', s ≠ .bor d')
    (hle : Le Z Z') (hn : ∀ b, b ≠ a → Z' b = Z b) : EStep ρ σ H Z (ρ.set i s) H Z' :=
  ⟨⟨fun _ _ q _ => q, hle, fun b o q => by
    by_cases hb : b = a
    · subst hb; exact .inr (.inr ⟨i, d, h, ha⟩)
    · rw [hn b hb] at q; exact .inl q, fun b q => .inl (q.set_out no), fun _ q => q, fun j d' q => by
    rcases set_get q with ⟨_, e⟩ | ⟨_, e⟩
    · exact absurd e.symm (nb d')
    · exact ⟨e, rfl⟩, fun j d' q ob => by
    rcases set_get q with ⟨_, e⟩ | ⟨_, e⟩
    · exact absurd e.symm (no d')
    · exact ⟨⟨d', e, ob⟩, rfl⟩⟩, .refl _, by rw [List.length_set], fun b q => q.set_out no⟩
theorem se_frz (hN : X.N[i]? = some x) (hv : Vis X.env.scope x) (hd : (x == ("__debug__" : Str)) = false := by decide) (hcd : (x == ("__classdict__" : Str)) = false := by decide) : SE X (.Name x pos) (cFrz i) := by
  refine ⟨fun W tk => peI (pe_var hN hv hd hcd) (tE_of fun ρ σ H Z Q S p => ?_)⟩
  unfold cFrz at p
  cases q : ρ[i]? with
  | none => rw [q] at p; exact p.elim
  | some s =>
    have z := S.slotAt q
    rw [q] at p
    cases s with
    | emp => exact p.elim
    | exn _ => exact p.elim
    | bor _ => exact p.elim
    | val d =>
      obtain ⟨v, ev, r⟩ := z
      exact ⟨v, ev, Po.out (k := kE) (a := .val d) p S r⟩
    | own d =>
      obtain ⟨a, ev, r, zn⟩ := z
      obtain ⟨o, ho⟩ := r.there
      have rp : Rep (tx X) (frz Z H a) d (.ref a) := (r.mono rfl (frz_le zn)).rep (frz_at.trans ho) ho
      refine ⟨_, ev, p (.ref a) H (frz Z H a) (S.leave q ev (.inr rfl) (frz_sub S.sub) (frz_le zn) (fun b hb => frz_ne hb) fun _ => rp) (EStep.leave (T := tx X) q ev (fun _ z => by cases z) (fun _ z => by cases z) (frz_le zn) fun b hb => frz_ne hb) rp⟩
theorem se_mv (hN : X.N[i]? = some x) (hv : Vis X.env.scope x) (hd : (x == ("__debug__" : Str)) = false := by decide) (hcd : (x == ("__classdict__" : Str)) = false := by decide) : SE X (.Name x pos) (cMv i) := by
  refine ⟨fun W tk => peI (pe_var hN hv hd hcd) (tE_of fun ρ σ H Z Q S p => ?_)⟩
  unfold cMv at p
  cases q : ρ[i]? with
  | none => rw [q] at p; exact p.elim
  | some s =>
    have z := S.slotAt q
    rw [q] at p
    cases s with
    | emp => exact p.elim
    | exn _ => exact p.elim
    | bor _ => exact p.elim
    | val d =>
      obtain ⟨v, ev, r⟩ := z
      exact ⟨v, ev, Po.out (k := kE) (a := .val d) p S r⟩
    | own d =>
      obtain ⟨a, ev, r, zn⟩ := z
      simp only at p
      by_cases ho : isObj d = true
      · rw [if_pos ho] at p; exact p.elim
      rw [if_neg ho] at p
      refine ⟨_, ev, p (.ref a) H Z (S.leave q ev (.inl rfl) S.sub (.refl _) (fun _ _ => rfl) fun z => by cases z) (EStep.leave (T := tx X) q ev (fun _ z => by cases z) (fun _ z => by cases z) (.refl _) fun _ _ => rfl)
        ⟨a, rfl, r, zn, .inr ⟨i, d, q, ev⟩, fun ⟨j, d', h1, h2⟩ => ?_, fun hb => ?_, by simpa using ho⟩⟩
      · rcases set_get h1 with ⟨_, e⟩ | ⟨hj, e⟩
        · cases e
        · exact hj (S.inj i j d d' a q e ev h2)
      · exact S.sep a ⟨i, d, q, ev⟩ (hb.set_out fun _ z => by cases z)

/-! constants -/
theorem se_int {n : Int} {j : Nat} : SE X (.Constant (.int n) j pos) (cCst (.int n)) := ⟨fun W tk => peI pe_int (tE_of fun ρ σ H Z Q S p => Po.out (k := kE) (a := .val (.int n)) p S rfl)⟩
theorem se_bl {n : Bool} {j : Nat} : SE X (.Constant (.bool n) j pos) (cCst (.bl n)) := ⟨fun W tk => peI pe_bl (tE_of fun ρ σ H Z Q S p => Po.out (k := kE) (a := .val (.bl n)) p S rfl)⟩
theorem se_non {j : Nat} : SE X (.Constant .none j pos) (cCst .non) := ⟨fun W tk => peI pe_non (tE_of fun ρ σ H Z Q S p => Po.out (k := kE) (a := .val .non) p S rfl)⟩
theorem se_str {n : Str} {j : Nat} : SE X (.Constant (.str n) j pos) (cCst (.str n)) := ⟨fun W tk => peI pe_str (tE_of fun ρ σ H Z Q S p => Po.out (k := kE) (a := .val (.str n)) p S rfl)⟩
/-- a constant of the module -/
theorem se_glob {d : D} (hg : Gl X x) (hm : ∃ u v, X.mg x = some u ∧ RelV v u ∧ ∀ Z, Rep (tx X) Z d v) (hd : (x == ("__debug__" : Str)) = false := by decide) : SE X (.Name x pos) (cCst d) := by
  obtain ⟨u, v, hm, r, q⟩ := hm
  exact ⟨fun W tk => peI (pe_glob hg hm r hd) (tE_of fun ρ σ H Z Q S p => Po.out (k := kE) (a := .val d) p S (q Z))⟩

/-! operators -/
/-- a value rule serves f -/
def Fits1 (X : Cx) (r : V → Hp → VK → Prop) (f : D → Option Rv) : Prop := ∀ {ρ σ H Z dx x rv Q}, SOk (tx X) ρ σ H Z → RdOk (tx X) H Z x dx → f dx = some rv →
  (∀ v H' Z', SOk (tx X) ρ σ H' Z' → EStep ρ σ H Z ρ H' Z' → RvOk (tx X) ρ σ H ρ H' Z' v rv → Q v H') → r x H Q
def Fits2 (X : Cx) (r : R2) (f : D → D → Option Rv) : Prop := ∀ {ρ σ H Z dx dy x y rv Q}, SOk (tx X) ρ σ H Z → RdOk (tx X) H Z x dx → RdOk (tx X) H Z y dy → f dx dy = some rv →
  (∀ v H' Z', SOk (tx X) ρ σ H' Z' → EStep ρ σ H Z ρ H' Z' → RvOk (tx X) ρ σ H ρ H' Z' v rv → Q v H') → r x y H Q
theorem bin_ok {W : WX} {r : R2} {f : D → D → Option Rv} (hf : Fits2 X r f) : ∀ σ H Q, tK kE (tx X) W (cBin f ca cb) σ H Q → tOp r (tK kE (tx X) W ca) (tK kE (tx X) W cb) σ H Q := tE_of fun ρ σ H Z Q S p => by
  unfold cBin cR at p
  have p1 : Po kE (tx X) ρ σ H Z (bnd ca (fun rx => bnd (bnd cb fun r => ret r.d) fun y => ofO (f rx.d y)) ρ) W Q := by
    unfold bnd at p ⊢
    cases q : ca ρ with
    | ok rx ρ' => rw [q] at p; exact p
    | exc y ρ' => rw [q] at p; exact p
    | stuck => rw [q] at p; exact p
  refine ⟨ρ, Z, S, p1.bnd (k1 := kE) fun rx vx ρ1 H1 Z1 S1 E1 o1 p2 => ?_⟩
  have p3 : Po kE (tx X) ρ1 σ H1 Z1 (bnd cb (fun ry => ofO (f rx.d ry.d)) ρ1) W Q := by
    unfold bnd at p2 ⊢
    cases q : cb ρ1 with
    | ok ry ρ' => rw [q] at p2; exact p2
    | exc y ρ' => rw [q] at p2; exact p2
    | stuck => rw [q] at p2; exact p2
  refine ⟨ρ1, Z1, S1, p3.bnd (k1 := kE) fun ry vy ρ2 H2 Z2 S2 E2 o2 p4 => ?_⟩
  obtain ⟨rv, e, p5⟩ := p4.ofO
  exact hf S2 ((RvOk.read o1).mono E2.same E2.step.le) (RvOk.read o2) e fun v H' Z' S' E' o' => p5 v H' Z' S' E' o'
theorem un_ok {W : WX} {r : V → Hp → VK → Prop} {f : D → Option Rv} (hf : Fits1 X r f) : ∀ σ H Q, tK kE (tx X) W (cUn f ca) σ H Q → tUn r (tK kE (tx X) W ca) σ H Q := tE_of fun ρ σ H Z Q S p => by
  unfold cUn cR at p
  have p1 : Po kE (tx X) ρ σ H Z (bnd ca (fun rx => ofO (f rx.d)) ρ) W Q := by
    unfold bnd at p ⊢
    cases q : ca ρ with
    | ok rx ρ' => rw [q] at p; exact p
    | exc y ρ' => rw [q] at p; exact p
    | stuck => rw [q] at p; exact p
  refine ⟨ρ, Z, S, p1.bnd (k1 := kE) fun rx vx ρ1 H1 Z1 S1 E1 o1 p2 => ?_⟩
  obtain ⟨rv, e, p5⟩ := p2.ofO
  exact hf S1 (RvOk.read o1) e fun v H' Z' S' E' o' => p5 v H' Z' S' E' o'
theorem se_bin {op : Operator} {r : R2} {f : D → D → Option Rv} (ho : OpR X (binaryOp op) r) (hf : Fits2 X r f) (ha : SE X a ca) (hb : SE X b cb) : SE X (.BinOp a op b pos) (cBin f ca cb) :=
  ⟨fun W tk => peI (pe_op ho (ha.run W tk) (hb.run W tk)) (bin_ok hf)⟩
theorem se_un {op : UnaryOp} {r : V → Hp → VK → Prop} {f : D → Option Rv} (ho : UnR X (unaryOp op) r) (hf : Fits1 X r f) (ha : SE X a ca) : SE X (.UnaryOp op a pos) (cUn f ca) :=
  ⟨fun W tk => peI (pe_un ho (ha.run W tk)) (un_ok hf)⟩
theorem se_cmp {op : CmpOp} {r : R2} {f : D → D → Option Rv} (ho : OpR X (compareOp op) r) (hf : Fits2 X r f) (ha : SE X a ca) (hb : SE X b cb) (hm : behindInMarks op b = false := by rfl) : SE X (.Compare a [op] [b] pos) (cBin f ca cb) :=
  ⟨fun W tk => peI (pe_cmpR ho (ha.run W tk) (hb.run W tk) hm) (bin_ok hf)⟩
/-- two rules for one operator -/
theorem OpR.or {f : Value → Value → Sem Value} {r r' : R2} (h : OpR X f r) (h' : OpR X f r') : OpR X f (fun x y H Q => r x y H Q ∨ r' x y H Q) := fun pins s σ H x y v u Q I rx ry q => by
  rcases q with q | q
  · exact h pins s σ H x y v u Q I rx ry q
  · exact h' pins s σ H x y v u Q I rx ry q
/-- plain results -/
theorem Fits2.val {r : R2} {f : D → D → Option Rv} (h : ∀ {H Z dx dy x y d}, Le Z H → RdOk (tx X) H Z x dx → RdOk (tx X) H Z y dy → f dx dy = some (.val d) → ∀ Q : VK, (∀ v, Rep (tx X) Z d v → Q v H) → r x y H Q)
    (hv : ∀ {dx dy rv}, f dx dy = some rv → ∃ d, rv = .val d) : Fits2 X r f := fun {ρ σ H Z dx dy x y rv Q} S h1 h2 e k => by
  obtain ⟨d, rfl⟩ := hv e
  exact h S.sub h1 h2 e Q fun v q => k v H Z S (.refl _ _ _ _) q
theorem rd_int {T : Tx} {H Z : Hp} {x : V} {i : Int} (h : RdOk T H Z x (.int i)) : x = .int i := h.elim id fun ⟨_, _, z⟩ => z.elim
theorem rd_str {T : Tx} {H Z : Hp} {x : V} {i : Str} (h : RdOk T H Z x (.str i)) : x = .str i := h.elim id fun ⟨_, _, z⟩ => z.elim
theorem rd_bl {T : Tx} {H Z : Hp} {x : V} {i : Bool} (h : RdOk T H Z x (.bl i)) : x = .bl i := h.elim id fun ⟨_, _, z⟩ => z.elim
theorem rd_non {T : Tx} {H Z : Hp} {x : V} (h : RdOk T H Z x .non) : x = .non := h.elim id fun ⟨_, _, z⟩ => z.elim
theorem rd_lst {T : Tx} {H Z : Hp} {x : V} {ds : List D} (s : Le Z H) (h : RdOk T H Z x (.lst ds)) : ∃ a vs, x = .ref a ∧ Rd H a (.lst vs) ∧ Reps T Z ds vs := by
  rcases h with ⟨a, vs, e, q, r⟩ | ⟨a, e, vs, q, r⟩
  · exact ⟨a, vs, e, s.rd q, r⟩
  · exact ⟨a, vs, e, .inl q, r⟩
theorem rd_tup {T : Tx} {H Z : Hp} {x : V} {ds : List D} (s : Le Z H) (h : RdOk T H Z x (.tup ds)) : ∃ a vs, x = .ref a ∧ SqT T.K H a vs ∧ Reps T Z ds vs := by
  rcases h with ⟨a, vs, e, q, r⟩ | ⟨a, e, z⟩
  · exact ⟨a, vs, e, s.sqT q, r⟩
  · exact z.elim
end
end CI
end
section
set_option maxRecDepth 100000
/-! CIOps: each operator's value rule. -/
namespace CI
open PySem L2 PyProof.Rows
section
variable {X : Cx}
theorem opI2 {C : Int → Int → Prop} {g : Int → Int → V} {f : D → D → Option Rv} (hf : ∀ dx dy rv, f dx dy = some rv → ∃ i j d, dx = .int i ∧ dy = .int j ∧ C i j ∧ rv = .val d ∧ ∀ T Z, Rep T Z d (g i j)) : Fits2 X (rI C g) f := by
  intro ρ σ H Z dx dy x y rv Q S h1 h2 e k
  obtain ⟨i, j, d, rfl, rfl, c, rfl, q⟩ := hf _ _ _ e
  exact ⟨i, j, rd_int h1, rd_int h2, c, k _ _ _ S (.refl _ _ _ _) (q _ _)⟩
theorem opI20 {g : Int → Int → V} {f : D → D → Option Rv} (hf : ∀ dx dy rv, f dx dy = some rv → ∃ i j d, dx = .int i ∧ dy = .int j ∧ rv = .val d ∧ ∀ T Z, Rep T Z d (g i j)) : Fits2 X (rI0 g) f := by
  intro ρ σ H Z dx dy x y rv Q S h1 h2 e k
  obtain ⟨i, j, d, rfl, rfl, rfl, q⟩ := hf _ _ _ e
  exact ⟨i, j, rd_int h1, rd_int h2, k _ _ _ S (.refl _ _ _ _) (q _ _)⟩

/-! list + list, list * int over anything readable -/
theorem Inv.lstR {pins : List (Addr × Obj)} {σ : L2.St} {H : Hp} {s : Shared} {l : Addr} {xs : List V} (I : Inv X pins σ H s) (hH : Rd H l (.lst xs)) : xs.length ≤ sizeLine ∧ ∃ (its : List Value) (n : Nat), Vals xs its ∧ xs.length = its.length ∧ s.heap.get? l = some { cls := .type "list", data := .seq its.toArray n } := by
  obtain ⟨z, its, n, r, e⟩ := hH.ok I.hok
  exact ⟨z, its, n, r, r.length, e⟩
def rCatR : R2 := fun x y H Q => ∃ l b xs zs, x = .ref l ∧ y = .ref b ∧ Rd H l (.lst xs) ∧ Rd H b (.lst zs) ∧ xs.length + zs.length ≤ sizeLine ∧ ∀ p, H p = none → Q (.ref p) (upd H p (.lst (xs ++ zs)))
theorem op_catR : OpR X (binaryOp .Add) rCatR := by
  intro pins s σ H x y v u Q I rx ry h
  obtain ⟨l, b, xs, zs, rfl, rfl, hH, hB, hz, q⟩ := h
  cases rx
  cases ry
  obtain ⟨z, its, n, r, hl, e⟩ := Inv.lstR I hH
  obtain ⟨z2, its2, n2, r2, hl2, e2⟩ := Inv.lstR I hB
  refine PySem.P.add_list e e2 ?_ (by rw [List.size_toArray, List.size_toArray]; omega)
  have ea : its.toArray ++ its2.toArray = (its ++ its2).toArray := by simp
  rw [ea]
  exact ⟨.ref _, _, I.lnew (t' := s.toks) (r.append r2) (by rw [List.length_append]; omega), rfl, q _ I.fresh⟩
def rRepR : R2 := fun x y H Q => ∃ l k xs, x = .ref l ∧ y = .int k ∧ Rd H l (.lst xs) ∧ -(2 ^ 63) ≤ k ∧ k < 2 ^ 63 ∧ xs.length * k.toNat ≤ sizeLine ∧
  ∀ p, H p = none → Q (.ref p) (upd H p (.lst (List.replicate k.toNat xs).flatten))
theorem op_repR : OpR X (binaryOp .Mult) rRepR := by
  intro pins s σ H x y v u Q I rx ry h
  obtain ⟨l, k, xs, rfl, rfl, hH, h1, h2, hz, q⟩ := h
  cases rx
  obtain ⟨t, rfl⟩ := ry
  obtain ⟨z, its, n, r, hl, e⟩ := Inv.lstR I hH
  have hlen : its.toArray.size * k.toNat ≤ sizeLine := by rw [List.size_toArray, ← hl]; exact hz
  have hcap : ¬ its.toArray.size * k.toNat > (2 ^ 63 - 1) / 8 := by
    have : (sizeLine : Nat) ≤ (2 ^ 63 - 1) / 8 := by decide
    omega
  have hfit : ¬ (!Builtin.List.listFitsIndex k) = true := by
    rw [fitsIndex_both h1 h2]
    exact Bool.false_ne_true
  have hlong : ¬ Builtin.List.listTooLong (its.toArray.size * k.toNat) = true := by
    rw [notLongL hlen]
    exact Bool.false_ne_true
  have hnew : List.foldl (fun x1 x2 => x1 ++ x2) #[] (List.replicate (if its.toArray.isEmpty = true then 0 else k.toNat) its.toArray) = (List.replicate k.toNat its).flatten.toArray := by
    have f0 : ∀ m : Nat, List.foldl (fun x1 x2 => x1 ++ x2) #[] (List.replicate m its.toArray) = (List.replicate m its).flatten.toArray := fun m => by
      have := foldl_rep its m []
      rw [List.nil_append] at this
      exact this
    rw [f0]
    cases its with
    | nil => simp
    | cons a r' => rw [if_neg (by simp)]
  refine wpAny_binaryOp_repeat_ref (T := "list") (U := "int") (by decide) ⟨_, e, rfl⟩ (fun s' => typeIs_int s' k t) noFill_list_mul F.fills_int_mul F.slot_int_rmul repeat_list F.slot_int_index.lookup
    (call_meets F.slot_int_rmul (typeIs_int s k t) F.entry_int_rmul (F.args_int_rmul_2 _ _) (int___rmul___int_list k t l its.toArray n)
      ⟨e, rfl, ⟨_, e, rfl⟩, call_meets F.slot_list_mul ⟨_, e, rfl⟩ F.entry_list_mul (F.args_list_mul_2 _ _) (AutoListH.list___mul___list_int_3 l its.toArray n k t hfit hcap hlong) ⟨e, ?_⟩⟩)
  rw [hnew]
  exact ⟨.ref _, _, I.lnew (t' := s.toks) (r.rep k.toNat) (by rw [PyProof.Rows.lm_len_rep_flat, Nat.mul_comm]; exact hz), rfl, q _ I.fresh⟩
/-- a tuple times one is itself -/
theorem tuple_mul1 (l : Addr) (items : Array Value) (n : Nat) (dd : Option Addr) (sl : Array (Option Value)) (u : Tok) :
    Meets (Builtin.«tuple.__mul__» ⟨[.ref l, .int 1 u], []⟩) (fun _ R s => s.heap.get? l = some { cls := .type "tuple", dict := dd, data := .seq items n, slots := sl } ∧ R (.ok (.ret (Value.ref l))) s) :=
  .of_wp fun prog w A R s h => by
    obtain ⟨hp, g, d, tk, os⟩ := s
    obtain ⟨hl, h⟩ := h
    have f1 := AutoSeq1.idx_int
    wp_walk using wpAny_loadPart' hl
    exact ⟨_, rfl, h⟩
def rRep1 (K : PySem.W.Frag) : R2 := fun x y H Q => ∃ l xs, x = .ref l ∧ y = .int 1 ∧ SqT K H l xs ∧ Q (.ref l) H
theorem op_rep1 : OpR X (binaryOp .Mult) (rRep1 X.K) := by
  intro pins s σ H x y v u Q I rx ry h
  obtain ⟨l, xs, rfl, rfl, hT, q⟩ := h
  cases rx
  obtain ⟨t, rfl⟩ := ry
  obtain ⟨its, r, ⟨⟨cls, dd, data, sl⟩, ho, hc, n, hd⟩, hs⟩ := I.tuple hT
  simp only at hc hd
  subst hc hd
  refine wpAny_binaryOp_repeat_ref (T := "tuple") (U := "int") (by decide) ⟨_, ho, rfl⟩ (fun s' => typeIs_int s' 1 t) noFill_tuple_mul F.fills_int_mul F.slot_int_rmul repeat_tuple F.slot_int_index.lookup
    (call_meets F.slot_int_rmul (typeIs_int s 1 t) F.entry_int_rmul (F.args_int_rmul_2 _ _) (int_rmul_tuple 1 t l its.toArray n dd sl)
      ⟨ho, rfl, ⟨_, ho, rfl⟩, call_meets F.slot_tuple_mul ⟨_, ho, rfl⟩ F.entry_tuple_mul (F.args_tuple_mul_2 _ _) (tuple_mul1 l its.toArray n dd sl t) ⟨ho, ?_⟩⟩)
  exact ⟨.ref l, _, I, rfl, q⟩

/-! + -/
def rAddA (K : PySem.W.Frag) : R2 := fun x y H Q => rI0 (fun i j => .int (i + j)) x y H Q ∨ (∃ i j, x = .str i ∧ y = .str j ∧ i.length + j.length ≤ sizeLine ∧ Q (.str (i ++ j)) H) ∨ rCatA K x y H Q ∨ rCatR x y H Q
theorem op_addA : OpR X (binaryOp .Add) (rAddA X.K) := OpR.or op_add (OpR.or op_add_str (OpR.or op_catA op_catR))
theorem reps_nil_iff {T : Tx} {Z : Hp} {ds : List D} {vs : List V} (r : Reps T Z ds vs) : vs = [] ↔ ds = [] := by
  have := r.length
  constructor
  · intro h; subst h; exact List.eq_nil_of_length_eq_zero (by simpa using this)
  · intro h; subst h; exact List.eq_nil_of_length_eq_zero (by simpa using this.symm)
theorem fits_add : Fits2 X (rAddA X.K) oAdd := by
  intro ρ σ H Z dx dy x y rv Q S h1 h2 e k
  unfold oAdd at e
  split at e
  · cases e
    exact .inl ⟨_, _, rd_int h1, rd_int h2, k _ _ _ S (.refl _ _ _ _) rfl⟩
  · split at e
    · rename_i hz
      cases e
      exact .inr (.inl ⟨_, _, rd_str h1, rd_str h2, of_decide_eq_true hz, k _ _ _ S (.refl _ _ _ _) rfl⟩)
    · cases e
  · split at e
    · rename_i xs ys hz
      cases e
      obtain ⟨a, vs, rfl, q1, r1⟩ := rd_tup S.sub h1
      obtain ⟨b, ws, rfl, q2, r2⟩ := rd_tup S.sub h2
      have hz : xs.length + ys.length ≤ sizeLine := of_decide_eq_true hz
      refine .inr (.inr (.inl ⟨a, b, vs, ws, rfl, rfl, q1, q2, by rw [← r1.length, ← r2.length]; exact hz, fun z => ?_, fun z1 z2 => ?_, fun z1 z2 p hp => ?_⟩))
      · have hx : xs = [] := (reps_nil_iff r1).mp z
        subst hx
        exact k _ _ _ S (.refl _ _ _ _) (show Rep (tx X) Z (.tup ([] ++ ys)) (.ref b) from by
          rw [List.nil_append]; exact h2.elim id fun ⟨_, _, z⟩ => z.elim)
      · have hy : ys = [] := (reps_nil_iff r2).mp z2
        subst hy
        exact k _ _ _ S (.refl _ _ _ _) (show Rep (tx X) Z (.tup (xs ++ [])) (.ref a) from by
          rw [List.append_nil]; exact h1.elim id fun ⟨_, _, z⟩ => z.elim)
      · exact k _ _ _ (S.newZ hp) (EStep.newZ S hp) (rv_tup S hp (r1.append r2))
    · cases e
  · split at e
    · rename_i xs ys hz
      cases e
      obtain ⟨a, vs, rfl, q1, r1⟩ := rd_lst S.sub h1
      obtain ⟨b, ws, rfl, q2, r2⟩ := rd_lst S.sub h2
      have hz : xs.length + ys.length ≤ sizeLine := of_decide_eq_true hz
      exact .inr (.inr (.inr ⟨a, b, vs, ws, rfl, rfl, q1, q2, by rw [← r1.length, ← r2.length]; exact hz, fun p hp => k _ _ _ (S.new hp) (EStep.new hp) (rv_lst S hp (r1.append r2))⟩))
    · cases e
  · cases e
theorem fits_sub : Fits2 X (rI0 fun i j => .int (i - j)) oSub := opI20 fun dx dy rv e => by
  unfold oSub at e
  split at e
  · cases e; exact ⟨_, _, _, rfl, rfl, rfl, fun _ _ => rfl⟩
  · cases e
/-! * -/
def CMulA (i j : Int) : Prop := CMul i j ∨ CMulW i j
theorem op_mulI : OpR X (binaryOp .Mult) (rI CMulA fun i j => .int (i * j)) := opI fun _ _ _ _ _ _ _ hc q => mul_int q (hc.elim (fun z => z.ok) fun z => z.ok)
theorem mulOk_ok {i j : Int} (h : mulOk i j = true) : CMulA i j := by
  unfold mulOk smallI at h
  simp only [Bool.or_eq_true, Bool.and_eq_true, decide_eq_true_eq] at h
  rcases h with (h | h) | h
  · exact .inl (.inl h)
  · exact .inl (.inr h)
  · exact .inr h
def rMulA (K : PySem.W.Frag) : R2 := fun x y H Q => rI CMulA (fun i j => .int (i * j)) x y H Q ∨ rRepR x y H Q ∨ rRep1 K x y H Q ∨ rRepT K x y H Q
theorem op_mulA : OpR X (binaryOp .Mult) (rMulA X.K) := OpR.or op_mulI (OpR.or op_repR (OpR.or op_rep1 op_repT))
theorem fits_mul : Fits2 X (rMulA X.K) oMul := by
  intro ρ σ H Z dx dy x y rv Q S h1 h2 e k
  unfold oMul at e
  split at e
  · split at e
    · rename_i hz
      cases e
      exact .inl ⟨_, _, rd_int h1, rd_int h2, mulOk_ok hz, k _ _ _ S (.refl _ _ _ _) rfl⟩
    · cases e
  · split at e
    · rename_i xs n hz
      cases e
      obtain ⟨a, vs, rfl, q1, r1⟩ := rd_lst S.sub h1
      simp only [Bool.and_eq_true, decide_eq_true_eq, sz] at hz
      exact .inr (.inl ⟨a, n, vs, rfl, rd_int h2, q1, hz.1.1, hz.1.2, by rw [← r1.length]; exact hz.2, fun p hp => k _ _ _ (S.new hp) (EStep.new hp) (rv_lst S hp (r1.replicate _))⟩)
    · cases e
  · split at e
    · rename_i xs n hz
      cases e
      obtain ⟨a, vs, rfl, q1, r1⟩ := rd_tup S.sub h1
      simp only [Bool.and_eq_true, decide_eq_true_eq, Bool.not_eq_true', List.isEmpty_eq_false_iff] at hz
      by_cases h1n : n = 1
      · subst h1n
        refine .inr (.inr (.inl ⟨a, vs, rfl, rd_int h2, q1, k _ _ _ S (.refl _ _ _ _) (show Rep (tx X) Z (.tup (List.replicate (Int.toNat 1) xs).flatten) (.ref a) from ?_)⟩))
        have e1 : (List.replicate (Int.toNat 1) xs).flatten = xs := by simp [List.replicate]
        rw [e1]
        exact h1.elim id fun ⟨_, _, z⟩ => z.elim
      · exact .inr (.inr (.inr ⟨a, n, vs, rfl, rd_int h2, q1, fun z => hz.1.2 ((reps_nil_iff r1).mp z), by omega, hz.1.1.2, by rw [← r1.length]; exact hz.2, fun p hp => k _ _ _ (S.newZ hp) (EStep.newZ S hp) (rv_tup S hp (r1.replicate _))⟩))
    · cases e
  · cases e
/-! //, %, **, shifts, bits -/
def CDivA (i j : Int) : Prop := CDivN i j ∨ CDivW i j
theorem op_fdivA : OpR X (binaryOp .FloorDiv) (rI CDivA fun i j => .int (i.fdiv j)) := opI fun _ _ _ _ _ _ _ hc q =>
  hc.elim (fun h => floordiv_int h.1 q (.inl (PyProof.noPylong_small h.2))) fun h => floordiv_int (by have := h.1; omega) q (.inl (PyProof.noPylong_of_log2 h.2))
theorem fits_fdiv : Fits2 X (rI CDivA fun i j => .int (i.fdiv j)) oFdiv := opI2 fun dx dy rv e => by
  unfold oFdiv at e
  split at e
  · split at e
    · rename_i hz
      cases e
      simp only [divOk, Bool.or_eq_true, Bool.and_eq_true, decide_eq_true_eq] at hz
      exact ⟨_, _, _, rfl, rfl, hz, rfl, fun _ _ => rfl⟩
    · cases e
  · cases e
theorem fits_mod : Fits2 X (rI (fun _ j => j ≠ 0) fun i j => .int (i.fmod j)) oMod := opI2 fun dx dy rv e => by
  unfold oMod at e
  split at e
  · split at e
    · rename_i hz
      cases e
      exact ⟨_, _, _, rfl, rfl, hz, rfl, fun _ _ => rfl⟩
    · cases e
  · cases e
theorem powOk_ok {i j : Int} (h : powOk i j = true) : CPow i j := by
  simp only [powOk, Bool.and_eq_true, decide_eq_true_eq] at h
  exact ⟨h.1.1, h.1.2, h.2⟩
theorem fits_pow : Fits2 X (rI CPow fun i j => .int (i ^ j.toNat)) oPow := opI2 fun dx dy rv e => by
  unfold oPow at e
  split at e
  · split at e
    · rename_i hz
      cases e
      exact ⟨_, _, _, rfl, rfl, powOk_ok hz, rfl, fun _ _ => rfl⟩
    · cases e
  · cases e
theorem fits_shl : Fits2 X (rI CPow fun i j => .int (i * 2 ^ j.toNat)) oShl := opI2 fun dx dy rv e => by
  unfold oShl at e
  split at e
  · split at e
    · rename_i hz
      cases e
      exact ⟨_, _, _, rfl, rfl, powOk_ok hz, rfl, fun _ _ => rfl⟩
    · cases e
  · cases e
theorem fits_shr : Fits2 X (rI (fun _ j => 0 ≤ j) fun i j => .int (i / 2 ^ j.toNat)) oShr := opI2 fun dx dy rv e => by
  unfold oShr at e
  split at e
  · split at e
    · rename_i hz
      cases e
      exact ⟨_, _, _, rfl, rfl, hz, rfl, fun _ _ => rfl⟩
    · cases e
  · cases e
theorem fits_and : Fits2 X (rI0 fun i j => .int (Builtin.bitAnd i j)) oAnd := opI20 fun dx dy rv e => by
  unfold oAnd at e
  split at e
  · cases e; exact ⟨_, _, _, rfl, rfl, rfl, fun _ _ => rfl⟩
  · cases e
theorem fits_or : Fits2 X (rI0 fun i j => .int (Builtin.bitOr i j)) oOr := opI20 fun dx dy rv e => by
  unfold oOr at e
  split at e
  · cases e; exact ⟨_, _, _, rfl, rfl, rfl, fun _ _ => rfl⟩
  · cases e
theorem fits_xor : Fits2 X (rI0 fun i j => .int (Builtin.bitXor i j)) oXor := opI20 fun dx dy rv e => by
  unfold oXor at e
  split at e
  · cases e; exact ⟨_, _, _, rfl, rfl, rfl, fun _ _ => rfl⟩
  · cases e
theorem fits_neg : Fits1 X (rU fun i => .int (-i)) oNeg := by
  intro ρ σ H Z dx x rv Q S h1 e k
  unfold oNeg at e
  split at e
  · cases e
    exact ⟨_, rd_int h1, k _ _ _ S (.refl _ _ _ _) rfl⟩
  · cases e
/-! comparisons -/
theorem fits_cmpI {p : Int → Int → Bool} : Fits2 X (rI0 fun i j => .bl (p i j)) (cmpI p) := opI20 fun dx dy rv e => by
  unfold cmpI at e
  split at e
  · cases e; exact ⟨_, _, _, rfl, rfl, rfl, fun _ _ => rfl⟩
  · cases e
mutual
theorem dp_of {T : Tx} {H Z : Hp} (s : Le Z H) : ∀ {d : D} {v : V} {e : PyData}, Rep T Z d v → pyOf d = some e → Dp T.K H v e
  | .non, _, _, r, h => by cases h; rw [show _ = V.non from r]; exact .non
  | .bl b, _, _, r, h => by cases h; rw [show _ = V.bl b from r]; exact .bl b
  | .int i, _, _, r, h => by cases h; rw [show _ = V.int i from r]; exact .int i
  | .str x, _, _, r, h => by cases h; rw [show _ = V.str x from r]; exact .str x
  | .tup ds, _, _, ⟨a, vs, e, q, r⟩, h => by
    unfold pyOf at h
    cases hp : pyAll ds with
    | none => rw [hp] at h; cases h
    | some es => rw [hp] at h; cases h; subst e; exact .tup (s.sqT q) (dpAll_of s r hp)
  | .lst ds, _, _, ⟨a, vs, e, q, r⟩, h => by
    unfold pyOf at h
    cases hp : pyAll ds with
    | none => rw [hp] at h; cases h
    | some es => rw [hp] at h; cases h; subst e; exact .lst (.inl (s.rd q)) (dpAll_of s r hp)
  | .dic _, _, _, _, h => by cases h
  | .obj _ _, _, _, _, h => by cases h
  | .glo _, _, _, _, h => by cases h
theorem dpAll_of {T : Tx} {H Z : Hp} (s : Le Z H) : ∀ {ds : List D} {vs : List V} {es : List PyData}, Reps T Z ds vs → pyAll ds = some es → DpAll T.K H vs es
  | [], _, _, r, h => by cases h; rw [show _ = ([] : List V) from r]; exact .nil
  | d :: ds, _, _, ⟨v, r, e, q, t⟩, h => by
    unfold pyAll at h
    cases h1 : pyOf d with
    | none => rw [h1] at h; cases h
    | some x =>
      cases h2 : pyAll ds with
      | none => rw [h1, h2] at h; cases h
      | some xs => rw [h1, h2] at h; cases h; subst e; exact .cons (dp_of s q h1) (dpAll_of s t h2)
end
theorem dp_rd {T : Tx} {H Z : Hp} {d : D} {v : V} {e : PyData} (s : Le Z H) (h : RdOk T H Z v d) (hp : pyOf d = some e) : Dp T.K H v e := by
  rcases h with h | ⟨a, rfl, h⟩
  · exact dp_of s h hp
  · cases d with
    | lst ds =>
      obtain ⟨vs, q, r⟩ := h
      unfold pyOf at hp
      cases h2 : pyAll ds with
      | none => rw [h2] at hp; cases hp
      | some es => rw [h2] at hp; cases hp; exact .lst (.of q) (dpAll_of s r h2)
    | dic _ => cases hp
    | obj _ _ => cases hp
    | _ => exact h.elim
theorem eqD_ok {a b : D} {k : Bool} (h : eqD a b = some k) : ∃ d e, pyOf a = some d ∧ pyOf b = some e ∧ SeqAt.shaped d = true ∧ SeqAt.shaped e = true ∧ k = PyData.eqv d e := by
  unfold eqD at h
  split at h
  · rename_i d e h1 h2
    split at h
    · rename_i hs
      rw [Bool.and_eq_true] at hs
      cases h
      exact ⟨d, e, h1, h2, hs.1, hs.2, rfl⟩
    · cases h
  · cases h
theorem fits_eq : Fits2 X (rEqD X.K) oEq := by
  intro ρ σ H Z dx dy x y rv Q S h1 h2 e k
  unfold oEq at e
  cases hq : eqD dx dy with
  | none => rw [hq] at e; cases e
  | some b =>
    rw [hq] at e; cases e
    obtain ⟨d, e, p1, p2, s1, s2, rfl⟩ := eqD_ok hq
    exact ⟨d, e, dp_rd (T := tx X) S.sub h1 p1, dp_rd (T := tx X) S.sub h2 p2, s1, s2, k _ _ _ S (.refl _ _ _ _) rfl⟩
theorem fits_ne : Fits2 X (rNeD X.K) oNe := by
  intro ρ σ H Z dx dy x y rv Q S h1 h2 e k
  unfold oNe at e
  cases hq : eqD dx dy with
  | none => rw [hq] at e; cases e
  | some b =>
    rw [hq] at e; cases e
    obtain ⟨d, e, p1, p2, s1, s2, rfl⟩ := eqD_ok hq
    exact ⟨d, e, dp_rd (T := tx X) S.sub h1 p1, dp_rd (T := tx X) S.sub h2 p2, s1, s2, k _ _ _ S (.refl _ _ _ _) rfl⟩
theorem inD_ok {a b : D} {k : Bool} (h : inD a b = some k) : ∃ d ds, pyOf a = some d ∧ pyOf b = some (.list ds) ∧ SeqAt.shaped d = true ∧ SeqAt.shaped (.list ds) = true ∧ k = ds.any fun z => PyData.eqv z d := by
  unfold inD at h
  split at h
  · rename_i d e h1 h2
    split at h
    · rename_i hs
      rw [Bool.and_eq_true] at hs
      cases h
      exact ⟨d, e, h1, h2, hs.1, hs.2, rfl⟩
    · cases h
  · cases h
theorem fits_inL : Fits2 X (rInD X.K) oInL := by
  intro ρ σ H Z dx dy x y rv Q S h1 h2 e k
  unfold oInL at e
  cases hq : inD dx dy with
  | none => rw [hq] at e; cases e
  | some b =>
    rw [hq] at e; cases e
    obtain ⟨d, e, p1, p2, s1, s2, rfl⟩ := inD_ok hq
    exact ⟨d, e, dp_rd (T := tx X) S.sub h1 p1, dp_rd (T := tx X) S.sub h2 p2, s1, s2, k _ _ _ S (.refl _ _ _ _) rfl⟩
theorem fits_notInL : Fits2 X (rNotInD X.K) oNotInL := by
  intro ρ σ H Z dx dy x y rv Q S h1 h2 e k
  unfold oNotInL at e
  cases hq : inD dx dy with
  | none => rw [hq] at e; cases e
  | some b =>
    rw [hq] at e; cases e
    obtain ⟨d, e, p1, p2, s1, s2, rfl⟩ := inD_ok hq
    exact ⟨d, e, dp_rd (T := tx X) S.sub h1 p1, dp_rd (T := tx X) S.sub h2 p2, s1, s2, k _ _ _ S (.refl _ _ _ _) rfl⟩
theorem rd_isNon {T : Tx} {H Z : Hp} {x : V} {d : D} (h : RdOk T H Z x d) : decide (x = .non) = isNon d := by
  cases d with
  | non => rw [rd_non h]; rfl
  | bl b => rw [rd_bl h]; rfl
  | int b => rw [rd_int h]; rfl
  | str b => rw [rd_str h]; rfl
  | tup ds => rcases h with ⟨a, _, rfl, _⟩ | ⟨a, rfl, z⟩ <;> rfl
  | lst ds => rcases h with ⟨a, _, rfl, _⟩ | ⟨a, rfl, z⟩ <;> rfl
  | dic ds => rcases h with ⟨a, rfl, _⟩ | ⟨a, rfl, z⟩ <;> rfl
  | obj c ds => rcases h with ⟨a, _, _, _, rfl, _⟩ | ⟨a, rfl, z⟩ <;> rfl
  | glo c => rcases h with ⟨a, rfl, _⟩ | ⟨a, rfl, z⟩ <;> rfl
theorem isNon_eq {d : D} (h : isNon d = true) : d = .non := by cases d <;> first | rfl | cases h
theorem fits_isN : Fits2 X (fun x y H Q => y = .non ∧ Q (.bl (decide (x = .non))) H) oIsN := by
  intro ρ σ H Z dx dy x y rv Q S h1 h2 e k
  unfold oIsN at e
  split at e
  · rename_i hn
    cases e
    have := isNon_eq hn
    subst this
    exact ⟨rd_non h2, by rw [rd_isNon h1]; exact k _ _ _ S (.refl _ _ _ _) rfl⟩
  · cases e
theorem fits_notN : Fits2 X (fun x y H Q => y = .non ∧ Q (.bl (!decide (x = .non))) H) oNotN := by
  intro ρ σ H Z dx dy x y rv Q S h1 h2 e k
  unfold oNotN at e
  split at e
  · rename_i hn
    cases e
    have := isNon_eq hn
    subst this
    exact ⟨rd_non h2, by rw [rd_isNon h1]; exact k _ _ _ S (.refl _ _ _ _) rfl⟩
  · cases e
end
end CI
end
section
set_option maxRecDepth 100000
/-! CITst: tests, places, arguments, displays. -/
namespace CI
open PySem L2 PyProof.Rows
section
variable {X : Cx} {e a b c : Expr} {ca cb cc : Mn Rv} {ta tb : Mn Bool} {pos : Pos} {W : WX}
theorem rd_len_line {T : Tx} {H Z : Hp} {x : V} {ds : List D} : True := trivial
theorem truD_ok {H Z : Hp} {x : V} {d : D} {k : Bool} (s : Le Z H) (h : RdOk (tx X) H Z x d) (e : truD d = some k) : TruV X.K x H k := by
  cases d with
  | non => cases e; rw [rd_non h]; rfl
  | bl b => cases e; rw [rd_bl h]; rfl
  | int i => cases e; rw [rd_int h]; rfl
  | str y =>
    simp only [truD] at e
    split at e
    · rename_i hz; cases e; rw [rd_str h]; exact ⟨of_decide_eq_true hz, rfl⟩
    · cases e
  | tup ds =>
    cases e
    obtain ⟨a, vs, rfl, q, r⟩ := rd_tup s h
    refine .inr (.inl ⟨vs, q, ?_⟩)
    have := r.length
    cases ds <;> cases vs <;> first | rfl | (simp at this)
  | lst ds =>
    cases e
    obtain ⟨a, vs, rfl, q, r⟩ := rd_lst s h
    refine .inl ⟨vs, .inl q, ?_⟩
    have := r.length
    cases ds <;> cases vs <;> first | rfl | (simp at this)
  | dic kvs =>
    cases e
    have key : ∀ {es : List (Key × V)}, RepK (tx X) Z kvs es → (!kvs.isEmpty) = !es.isEmpty := fun {es} r => by
      cases kvs with
      | nil => rw [show es = [] from r]; rfl
      | cons p ps => obtain ⟨q, v, r', e, _⟩ := r; rw [e]; rfl
    rcases h with ⟨a, rfl, es, q, r⟩ | ⟨a, rfl, es, q, r⟩
    · exact .inr (.inr ⟨es, s _ _ q, key r⟩)
    · exact .inr (.inr ⟨es, q, key r⟩)
  | obj _ _ => cases e
  | glo _ => cases e
theorem st_tr (ha : SE X a ca) (he : ∀ whole, isTrue a X.env whole = (do let v ← whole; standAt a.pos; holding [v] (truthy v)) := by intro _; rfl) : STt X a (cTr ca) :=
  ⟨fun W tk => ptI (pt_truth (ha.run W tk) he) (tE_of fun ρ σ H Z Q S p => ⟨ρ, Z, S, p.bnd (k1 := kE) fun r v ρ1 H1 Z1 S1 E1 o1 p1 => by
    obtain ⟨k, e, p2⟩ := p1.ofO
    exact ⟨k, truD_ok S1.sub (RvOk.read o1) e, Po.out (k := kB) p2 S1 rfl⟩⟩)⟩
/-- a chain of and, or -/
structure SW (X : Cx) (e : Expr) (c : Mn Bool) : Prop where
  run : ∀ W, Takes X W → PW X e (tK kB (tx X) W c)
theorem st_w (h : SW X e ta) : STt X e ta := ⟨fun W tk => (h.run W tk).pt⟩
theorem pwI {t u : TT} (h : PW X e t) (k : ∀ σ H Q, u σ H Q → t σ H Q) : PW X e u := ⟨fun wh pins s σ H Q I q => h.run wh pins s σ H Q I (k σ H Q q)⟩
theorem st_not (ha : STt X a ta) : STt X (.UnaryOp .Not a pos) (cNot ta) :=
  ⟨fun W tk => ptI (pt_not (ha.run W tk)) (tE_of fun ρ σ H Z Q S p => ⟨ρ, Z, S, p.bnd (k1 := kB) fun r v ρ1 H1 Z1 S1 E1 o1 p1 => by
    cases o1
    exact Po.out (k := kB) p1 S1 rfl⟩)⟩
theorem sw_and1 (ha : STt X a ta) : SW X (.BoolOp .And [a] pos) ta := ⟨fun W tk => pw_and1 (ha.run W tk)⟩
theorem sw_or1 (ha : STt X a ta) : SW X (.BoolOp .Or [a] pos) ta := ⟨fun W tk => pw_or1 (ha.run W tk)⟩
theorem sw_and {rest : List Expr} (ha : STt X a ta) (hb : SW X (.BoolOp .And (b :: rest) pos) tb) : SW X (.BoolOp .And (a :: b :: rest) pos) (cAnd ta tb) :=
  ⟨fun W tk => pwI (pw_and (ha.run W tk) (hb.run W tk)) (tE_of fun ρ σ H Z Q S p => ⟨ρ, Z, S, p.bnd (k1 := kB) fun r v ρ1 H1 Z1 S1 E1 o1 p1 => by
    cases o1
    cases r with
    | true => exact ⟨ρ1, Z1, S1, p1⟩
    | false => exact Po.out (k := kB) p1 S1 rfl⟩)⟩
theorem sw_or {rest : List Expr} (ha : STt X a ta) (hb : SW X (.BoolOp .Or (b :: rest) pos) tb) : SW X (.BoolOp .Or (a :: b :: rest) pos) (cOr ta tb) :=
  ⟨fun W tk => pwI (pw_or (ha.run W tk) (hb.run W tk)) (tE_of fun ρ σ H Z Q S p => ⟨ρ, Z, S, p.bnd (k1 := kB) fun r v ρ1 H1 Z1 S1 E1 o1 p1 => by
    cases o1
    cases r with
    | true => exact Po.out (k := kB) p1 S1 rfl
    | false => exact ⟨ρ1, Z1, S1, p1⟩⟩)⟩
theorem blD_ok {T : Tx} {H Z : Hp} {x : V} {d : D} {k : Bool} (h : RdOk T H Z x d) (e : blD d = some k) : x = .bl k := by
  cases d with
  | bl b => cases e; exact rd_bl h
  | _ => cases e
theorem se_notV (ha : SE X a ca) : SE X (.UnaryOp .Not a pos) (cNotV ca) :=
  ⟨fun W tk => peI (pe_not (ha.run W tk)) (tE_of fun ρ σ H Z Q S p => ⟨ρ, Z, S, p.bnd (k1 := kE) fun r v ρ1 H1 Z1 S1 E1 o1 p1 => by
    cases hb : blD r.d with
    | none => rw [hb] at p1; exact p1.elim
    | some k =>
      rw [hb] at p1
      exact ⟨k, blD_ok (RvOk.read o1) hb, Po.out (k := kE) (a := .val (.bl (!k))) p1 S1 rfl⟩⟩)⟩
theorem se_one {op : BoolOp} (ha : SE X a ca) : SE X (.BoolOp op [a] pos) ca := ⟨fun W tk => pe_one (ha.run W tk)⟩
theorem se_andV {rest : List Expr} (ha : SE X a ca) (hb : SE X (.BoolOp .And (b :: rest) pos) cb) : SE X (.BoolOp .And (a :: b :: rest) pos) (cAndV ca cb) :=
  ⟨fun W tk => peI (pe_and (ha.run W tk) (hb.run W tk)) (tE_of fun ρ σ H Z Q S p => ⟨ρ, Z, S, p.bnd (k1 := kE) fun r v ρ1 H1 Z1 S1 E1 o1 p1 => by
    cases hb : blD r.d with
    | none => rw [hb] at p1; exact p1.elim
    | some k =>
      rw [hb] at p1
      refine ⟨k, blD_ok (RvOk.read o1) hb, ?_⟩
      cases k with
      | true => exact ⟨ρ1, Z1, S1, p1⟩
      | false => exact Po.out (k := kE) (a := .val (.bl false)) p1 S1 rfl⟩)⟩
theorem se_orV {rest : List Expr} (ha : SE X a ca) (hb : SE X (.BoolOp .Or (b :: rest) pos) cb) : SE X (.BoolOp .Or (a :: b :: rest) pos) (cOrV ca cb) :=
  ⟨fun W tk => peI (pe_or (ha.run W tk) (hb.run W tk)) (tE_of fun ρ σ H Z Q S p => ⟨ρ, Z, S, p.bnd (k1 := kE) fun r v ρ1 H1 Z1 S1 E1 o1 p1 => by
    cases hb : blD r.d with
    | none => rw [hb] at p1; exact p1.elim
    | some k =>
      rw [hb] at p1
      refine ⟨k, blD_ok (RvOk.read o1) hb, ?_⟩
      cases k with
      | true => exact Po.out (k := kE) (a := .val (.bl true)) p1 S1 rfl
      | false => exact ⟨ρ1, Z1, S1, p1⟩⟩)⟩
theorem se_if {t : Expr} (ht : STt X t ta) (ha : SE X a ca) (hb : SE X b cb) : SE X (.IfExp t a b pos) (cIf ta ca cb) :=
  ⟨fun W tk => peI (pe_ifExp (ht.run W tk) (ha.run W tk) (hb.run W tk)) (tE_of fun ρ σ H Z Q S p => ⟨ρ, Z, S, p.bnd (k1 := kB) fun r v ρ1 H1 Z1 S1 E1 o1 p1 => by
    cases o1
    cases r with
    | true => exact ⟨ρ1, Z1, S1, p1⟩
    | false => exact ⟨ρ1, Z1, S1, p1⟩⟩)⟩
theorem se_chain {op op' : CmpOp} {r r' : R2} {f g : D → D → Option Rv} (ho : OpR X (compareOp op) r) (ho' : OpR X (compareOp op') r') (hf : Fits2 X r f) (hg : Fits2 X r' g) (ha : SE X a ca) (hb : SE X b cb) (hc : SE X c cc)
    (hm : lastMarks [op, op'] [b, c] = false := by with_unfolding_all rfl) : SE X (.Compare a [op, op'] [b, c] pos) (cChain f g ca cb cc) :=
  ⟨fun W tk => peI (pe_chain ho ho' (ha.run W tk) (hb.run W tk) (hc.run W tk) hm) (tE_of fun ρ σ H Z Q S p => ⟨ρ, Z, S, p.bnd (k1 := kE) fun r1 v1 ρ1 H1 Z1 S1 E1 o1 p1 => ⟨ρ1, Z1, S1, p1.bnd (k1 := kE) fun r2 v2 ρ2 H2 Z2 S2 E2 o2 p2 => by
    cases hq : f r1.d r2.d with
    | none => rw [hq] at p2; exact p2.elim
    | some rv =>
      rw [hq] at p2
      cases hk : blR (some rv) with
      | none => rw [hk] at p2; exact p2.elim
      | some k =>
        rw [hk] at p2
        have erv : rv = .val (.bl k) := by
          unfold blR at hk
          split at hk
          · rename_i b hb; cases hk; exact Option.some.inj hb
          · cases hk
        subst erv
        refine hf S2 ((RvOk.read o1).mono E2.same E2.step.le) (RvOk.read o2) hq fun v H' Z' S' E' o' => ⟨k, o', ?_⟩
        have p3 := p2.later E'
        cases k with
        | true =>
          refine ⟨ρ2, Z', S', Po.bnd (k1 := kE) p3 fun r3 v3 ρ3 H3 Z3 S3 E3 o3 p4 => ?_⟩
          obtain ⟨rv, e, p5⟩ := p4.ofO
          exact hg S3 ((RvOk.read o2).mono (E'.same.trans E3.same) (E'.step.le.trans E3.step.le)) (RvOk.read o3) e fun v H' Z' S' E' o' => p5 v H' Z' S' E' o'
        | false => exact Po.out (k := kE) (a := .val (.bl false)) p3 S' rfl⟩⟩)⟩

/-! places -/
theorem atI_reps {T : Tx} {Z : Hp} {ds : List D} {vs : List V} (r : Reps T Z ds vs) {i : Int} {d : D} (h : atI ds i = some d) : ∃ v, atI vs i = some v ∧ Rep T Z d v := by
  unfold atI at h ⊢
  rw [← r.length]
  cases hx : ixN ds.length i with
  | none => rw [hx] at h; cases h
  | some j =>
    rw [hx] at h
    exact r.get (i := j) h
theorem fits_ix : Fits2 X (rIx X.K) ixD := by
  intro ρ σ H Z dx dy x y rv Q S h1 h2 e k
  unfold ixD at e
  split at e
  · rename_i xs i
    obtain ⟨a, vs, rfl, q, r⟩ := rd_lst S.sub h1
    cases hd : atI xs i with
    | none => rw [hd] at e; cases e
    | some d =>
      rw [hd] at e; cases e
      obtain ⟨v, hv, rv⟩ := atI_reps r hd
      exact .inl ⟨a, vs, i, v, rfl, rd_int h2, .inl q, hv, k _ _ _ S (.refl _ _ _ _) rv⟩
  · rename_i xs i
    obtain ⟨a, vs, rfl, q, r⟩ := rd_tup S.sub h1
    cases hd : atI xs i with
    | none => rw [hd] at e; cases e
    | some d =>
      rw [hd] at e; cases e
      obtain ⟨v, hv, rv⟩ := atI_reps r hd
      exact .inr (.inl ⟨a, vs, i, v, rfl, rd_int h2, q, hv, k _ _ _ S (.refl _ _ _ _) rv⟩)
  · split at e
    · rename_i z i hz
      cases hd : atI z.cps.toList i with
      | none => rw [hd] at e; cases e
      | some d =>
        rw [hd] at e; cases e
        exact .inr (.inr ⟨z, i, d, rd_str h1, rd_int h2, of_decide_eq_true hz, hd, k _ _ _ S (.refl _ _ _ _) rfl⟩)
    · cases e
  · cases e
theorem se_ix (ha : SE X a ca) (hb : SE X b cb) (hs : PlainIx b := by exact fun _ _ => rfl) : SE X (.Subscript a b pos) (cBin ixD ca cb) :=
  ⟨fun W tk => peI (pe_ix ix_seq (ha.run W tk) (hb.run W tk) hs) (bin_ok fits_ix)⟩
/-- a part of a slice -/
def kO : Kd (Option Int) (Option Int) := ⟨fun _ _ _ _ _ _ _ b c => b = c, fun _ h => h⟩
structure SO (X : Cx) (e : Option Expr) (c : Mn (Option Int)) : Prop where
  run : ∀ W, Takes X W → PO X e (tK kO (tx X) W c)
theorem poI {e : Option Expr} {t u : TO} (h : PO X e t) (k : ∀ σ H Q, u σ H Q → t σ H Q) : PO X e u := ⟨fun pins s σ H Q I q => h.run pins s σ H Q I (k σ H Q q)⟩
theorem so_none : SO X none cNoPart := ⟨fun W tk => poI po_none (tE_of fun ρ σ H Z Q S p => Po.out (k := kO) p S rfl)⟩
theorem so_some (h : SE X a ca) : SO X (some a) (cPart ca) := ⟨fun W tk => poI (po_some (h.run W tk)) (tE_of fun ρ σ H Z Q S p => ⟨ρ, Z, S, p.bnd (k1 := kE) fun r v ρ1 H1 Z1 S1 E1 o1 p1 => by
    obtain ⟨k, e, p2⟩ := p1.ofO
    cases hd : r.d with
    | int i =>
      rw [hd] at e; cases e
      have := RvOk.read o1
      rw [hd] at this
      exact ⟨i, rd_int this, Po.out (k := kO) p2 S1 rfl⟩
    | _ => rw [hd] at e; cases e⟩)⟩
def rSlX (K : PySem.W.Frag) : V → Option Int → Option Int → Hp → VK → Prop := fun x lo hi H Q => rSlL K x lo hi H Q ∨ rSlA K x lo hi H Q ∨ rSlS x lo hi H Q
theorem sl_any : SlR X (rSlX X.K) := SlR.or sl_list (SlR.or sl_tupA sl_str)
theorem cut_reps {T : Tx} {Z : Hp} {ds : List D} {vs : List V} (r : Reps T Z ds vs) (lo hi : Option Int) : Reps T Z (cutD ds lo hi) (cutV vs lo hi) := by
  unfold cutD cutV
  rw [r.length]
  exact (r.drop _).take _
theorem se_sl {lo hi : Option Expr} {cl ch : Mn (Option Int)} {p2 : Pos} (ha : SE X a ca) (hl : SO X lo cl) (hh : SO X hi ch) : SE X (.Subscript a (.Slice lo hi none p2) pos) (cSl ca cl ch) :=
  ⟨fun W tk => peI (pe_slice sl_any (ha.run W tk) (hl.run W tk) (hh.run W tk)) (tE_of fun ρ σ H Z Q S p => ⟨ρ, Z, S, p.bnd (k1 := kE) fun r v ρ1 H1 Z1 S1 E1 o1 p1 => ⟨ρ1, Z1, S1, p1.bnd (k1 := kO) fun l l' ρ2 H2 Z2 S2 E2 o2 p2 => by
    cases o2
    refine ⟨ρ2, Z2, S2, p2.bnd (k1 := kO) fun h h' ρ3 H3 Z3 S3 E3 o3 p3 => ?_⟩
    cases o3
    obtain ⟨rv, e, p4⟩ := p3.ofO
    have rd := ((RvOk.read o1).mono E2.same E2.step.le).mono E3.same E3.step.le
    cases hd : r.d with
    | lst xs =>
      rw [hd] at rd e
      cases e
      obtain ⟨a, vs, rfl, q, r⟩ := rd_lst S3.sub rd
      exact .inl ⟨a, vs, rfl, .inl q, fun p hp => p4 _ _ _ (S3.new hp) (EStep.new hp) (rv_lst S3 hp (cut_reps r _ _))⟩
    | tup xs =>
      rw [hd] at rd e
      cases e
      obtain ⟨a, vs, rfl, q, r⟩ := rd_tup S3.sub rd
      refine .inr (.inl ⟨a, vs, rfl, q, fun ⟨z1, z2⟩ => ?_, fun _ p hp => p4 _ _ _ (S3.newZ hp) (EStep.newZ S3 hp) (rv_tup S3 hp (cut_reps r _ _))⟩)
      have ec : cutD xs l h = xs := by
        unfold cutD
        rw [r.length, z1, z2, List.drop_zero, Nat.sub_zero, List.take_of_length_le (by rw [r.length]; exact Nat.le_refl _)]
      refine p4 _ _ _ S3 (.refl _ _ _ _) (show Rep (tx X) Z3 (.tup (cutD xs l h)) (.ref a) from ?_)
      rw [ec]
      exact rd.elim id fun ⟨_, _, z⟩ => z.elim
    | str z =>
      rw [hd] at rd e
      simp only [slD] at e
      split at e
      · rename_i hz
        cases e
        exact .inr (.inr ⟨z, rd_str rd, of_decide_eq_true hz, p4 _ _ _ S3 (.refl _ _ _ _) rfl⟩)
      · cases e
    | _ => rw [hd] at e; cases e⟩⟩)⟩

/-! arguments, kept values, displays -/
theorem sd_v (h : SE X a ca) : SD X a (cV ca) := by
  refine ⟨fun W tk => peI (h.run W tk) fun σ H Q ⟨ρ, Z, S, p⟩ => ⟨ρ, Z, S, ?_⟩⟩
  unfold cV bnd at p
  cases q : ca ρ with
  | stuck => rw [q] at p; exact p
  | exc x ρ' => rw [q] at p; exact p
  | ok r ρ' =>
    rw [q] at p
    cases r with
    | bor d => exact p.elim
    | val d => exact fun v H' Z' S' E' o' => p v H' Z' S' E' o'
    | own d =>
      intro v H' Z' S' E' ⟨a, e, r, z, o, n1, n2, n3⟩
      subst e
      obtain ⟨ob, ho⟩ := r.there
      refine p (.ref a) H' (frz Z' H' a) (S'.freeze z n1) ?_ ((r.mono rfl (frz_le z)).rep (frz_at.trans ho) ho)
      refine ⟨⟨E'.step.frame, E'.step.le.trans (frz_le z), fun b u hb => ?_, E'.step.own, E'.step.kept, E'.step.bor, E'.step.obj⟩, E'.same, E'.len, E'.ownE⟩
      by_cases hba : b = a
      · subst hba; exact .inr o
      · rw [frz_ne hba] at hb; exact E'.step.grow b u hb
structure SAr (X : Cx) (e : Expr) (c : Mn Rv) : Prop where
  run : ∀ W, Takes X W → PE X e (tK (α := Rv) (β := V) ⟨fun T _ _ _ _ H' Z' v r => ArgOk T H' Z' v r, fun _ h => h⟩ (tx X) W c)
theorem sar (h : SE X a ca) : SAr X a (cA ca) := by
  refine ⟨fun W tk => peI (h.run W tk) fun σ H Q ⟨ρ, Z, S, p⟩ => ⟨ρ, Z, S, ?_⟩⟩
  unfold cA bnd at p
  cases q : ca ρ with
  | stuck => rw [q] at p; exact p
  | exc x ρ' => rw [q] at p; exact p
  | ok r ρ' =>
    rw [q] at p
    cases r with
    | bor d => exact fun v H' Z' S' E' o' => p v H' Z' S' E' o'
    | val d => exact fun v H' Z' S' E' o' => p v H' Z' S' E' o'
    | own d =>
      intro v H' Z' S' E' ⟨a, e, r, z, o, n1, n2, n3⟩
      subst e
      obtain ⟨ob, ho⟩ := r.there
      refine p (.ref a) H' (frz Z' H' a) (S'.freeze z n1) ?_ (show Rep (tx X) _ d _ from (r.mono rfl (frz_le z)).rep (frz_at.trans ho) ho)
      refine ⟨⟨E'.step.frame, E'.step.le.trans (frz_le z), fun b u hb => ?_, E'.step.own, E'.step.kept, E'.step.bor, E'.step.obj⟩, E'.same, E'.len, E'.ownE⟩
      by_cases hba : b = a
      · subst hba; exact .inr o
      · rw [frz_ne hba] at hb; exact E'.step.grow b u hb
theorem sa_nil : SA X [] cNil := ⟨fun W tk => paI pa_nil (tE_of fun ρ σ H Z Q S p => Po.out (k := kA) (b := []) (a := []) p S trivial)⟩
theorem sa_cons {es : List Expr} {cs : Mn (List Rv)} (ha : SE X a ca) (hr : SA X es cs) (hs : starEach (a :: es) X.env = (false, eval a X.env) :: starEach es X.env := by rfl) : SA X (a :: es) (cCons (cA ca) cs) :=
  ⟨fun W tk => paI (pa_cons ((sar ha).run W tk) (hr.run W tk) hs) (tE_of fun ρ σ H Z Q S p => ⟨ρ, Z, S, Po.bnd (k1 := ⟨fun T _ _ _ _ H' Z' v r => ArgOk T H' Z' v r, fun _ h => h⟩) p fun r v ρ1 H1 Z1 S1 E1 o1 p1 =>
    ⟨ρ1, Z1, S1, p1.bnd (k1 := kA) fun rs vs ρ2 H2 Z2 S2 E2 o2 p2 => Po.out (k := kA) (b := v :: vs) (a := r :: rs) p2 S2 ⟨ArgOk.mono o1 E2.same E2.step.le, o2⟩⟩⟩)⟩
theorem sds_nil : SDs X [] cNil := ⟨fun W tk => paI pa_nil (tE_of fun ρ σ H Z Q S p => Po.out (k := kDs) (b := []) (a := []) p S rfl)⟩
theorem sds_cons {es : List Expr} {cs : Mn (List D)} (ha : SE X a ca) (hr : SDs X es cs) (hs : starEach (a :: es) X.env = (false, eval a X.env) :: starEach es X.env := by rfl) : SDs X (a :: es) (cCons (cV ca) cs) :=
  ⟨fun W tk => paI (pa_cons ((sd_v ha).run W tk) (hr.run W tk) hs) (tE_of fun ρ σ H Z Q S p => ⟨ρ, Z, S, Po.bnd (k1 := kD) p fun r v ρ1 H1 Z1 S1 E1 o1 p1 =>
    ⟨ρ1, Z1, S1, p1.bnd (k1 := kDs) fun rs vs ρ2 H2 Z2 S2 E2 o2 p2 => Po.out (k := kDs) (b := v :: vs) (a := r :: rs) p2 S2 ⟨v, vs, rfl, Rep.mono E2.step.le o1, o2⟩⟩⟩)⟩
theorem se_tup {es : List Expr} {cs : Mn (List D)} {x1 : Nat} (h : SDs X es cs) : SE X (.Tuple es x1 pos) (cTup cs) :=
  ⟨fun W tk => peI (pe_tup (h.run W tk)) (tE_of fun ρ σ H Z Q S p => ⟨ρ, Z, S, p.bnd (k1 := kDs) fun ds vs ρ1 H1 Z1 S1 E1 o1 p1 => by
    by_cases hz : sz ds.length = true
    · rw [if_pos hz] at p1
      exact ⟨by rw [← Reps.length o1]; exact of_decide_eq_true hz, fun p hp => p1 _ _ _ (S1.newZ hp) (EStep.newZ S1 hp) (rv_tup S1 hp o1)⟩
    · rw [if_neg hz] at p1; exact p1.elim⟩)⟩
theorem se_lst {es : List Expr} {cs : Mn (List D)} (h : SDs X es cs) : SE X (.List es pos) (cLst cs) :=
  ⟨fun W tk => peI (pe_lst (h.run W tk)) (tE_of fun ρ σ H Z Q S p => ⟨ρ, Z, S, p.bnd (k1 := kDs) fun ds vs ρ1 H1 Z1 S1 E1 o1 p1 => by
    by_cases hz : sz ds.length = true
    · rw [if_pos hz] at p1
      exact ⟨by rw [← Reps.length o1]; exact of_decide_eq_true hz, fun p hp => p1 _ _ _ (S1.new hp) (EStep.new hp) (rv_lst S1 hp o1)⟩
    · rw [if_neg hz] at p1; exact p1.elim⟩)⟩
end
end CI
end
section
set_option maxRecDepth 100000
/-! CIStm: statements. -/
namespace CI
open PySem L2 PyProof.Rows
/-- what a returned value is -/
def RetOk (T : Tx) (ρ : En) (σ : L2.St) (H H' Z' : Hp) (v : V) : Rv → Prop
  | .val d => Rep T Z' d v
  | .own d => ∃ a, v = .ref a ∧ OR T H' Z' a d ∧ Z' a = none ∧ (H a = none ∨ OwnA ρ σ a) ∧ isObj d = false
  | .bor _ => False
def PoS (T : Tx) (ρ : En) (σ : L2.St) (H Z : Hp) (o : Out Fl) (W : WX) (D : Ends) : Prop := match o with
  | .ok .nx ρ' => ∀ σ' H' Z', SOk T ρ' σ' H' Z' → Step ρ σ H Z ρ' σ' H' Z' → D.nx σ' H'
  | .ok .brk ρ' => ∀ σ' H' Z', SOk T ρ' σ' H' Z' → Step ρ σ H Z ρ' σ' H' Z' → D.bk σ' H'
  | .ok .cnt ρ' => ∀ σ' H' Z', SOk T ρ' σ' H' Z' → Step ρ σ H Z ρ' σ' H' Z' → D.ct σ' H'
  | .ok (.ret r) ρ' => ∀ v σ' H' Z', SOk T ρ' σ' H' Z' → Step ρ σ H Z ρ' σ' H' Z' → RetOk T ρ σ H H' Z' v r → D.rt v H'
  | .exc x ρ' => ∀ cls d σ' H' Z', SOk T ρ' σ' H' Z' → Step ρ σ H Z ρ' σ' H' Z' → XOk T Z' x cls d → W cls d σ' H'
  | .stuck => False
section
variable {T : Tx} {ρ ρ1 : En} {σ σ1 : L2.St} {H H1 Z Z1 : Hp} {W : WX} {D : Ends}
theorem RetOk.base {H' Z' : Hp} {v : V} {r : Rv} (s : Step ρ σ H Z ρ1 σ1 H1 Z1) (h : RetOk T ρ1 σ1 H1 H' Z' v r) : RetOk T ρ σ H H' Z' v r := by
  cases r with
  | val d => exact h
  | bor d => exact h
  | own d => obtain ⟨a, e, r, z, n, n3⟩ := h; exact ⟨a, e, r, z, own_base s n, n3⟩
theorem PoS.later {o : Out Fl} (h : PoS T ρ σ H Z o W D) (s : Step ρ σ H Z ρ1 σ1 H1 Z1) : PoS T ρ1 σ1 H1 Z1 o W D := by
  cases o with
  | stuck => exact h
  | exc x ρ' => exact fun cls d σ' H' Z' S E q => h cls d σ' H' Z' S (s.trans E) q
  | ok f ρ' =>
    cases f with
    | nx => exact fun σ' H' Z' S E => h σ' H' Z' S (s.trans E)
    | brk => exact fun σ' H' Z' S E => h σ' H' Z' S (s.trans E)
    | cnt => exact fun σ' H' Z' S E => h σ' H' Z' S (s.trans E)
    | ret r => exact fun v σ' H' Z' S E q => h v σ' H' Z' S (s.trans E) (q.base s)
/-- an expression ahead of a statement's work -/
theorem PoS.bnd {k : Kd α β} {m : Mn α} {f : α → Mn Fl} {R : β → Hp → Prop} (h : PoS T ρ σ H Z (bnd m f ρ) W D)
    (hk : ∀ r b ρ1 H1 Z1, SOk T ρ1 σ H1 Z1 → EStep ρ σ H Z ρ1 H1 Z1 → k.ok T ρ σ H ρ1 H1 Z1 b r → PoS T ρ1 σ H1 Z1 (f r ρ1) W D → R b H1) : Po k T ρ σ H Z (m ρ) W R := by
  unfold CI.bnd at h
  cases e : m ρ with
  | ok a ρ' => rw [e] at h; exact fun b H' Z' S E q => hk a b ρ' H' Z' S E q (h.later E.step)
  | exc x ρ' => rw [e] at h; exact fun cls d H' Z' S E q => h cls d σ H' Z' S E.step q
  | stuck => rw [e] at h; exact h
theorem PoS.ofO {o : Option α} {f : α → Mn Fl} (h : PoS T ρ σ H Z (CI.bnd (CI.ofO o) f ρ) W D) : ∃ a, o = some a ∧ PoS T ρ σ H Z (f a ρ) W D := by
  cases o with
  | none => exact h.elim
  | some a => exact ⟨a, rfl, h⟩
def tS (T : Tx) (W : WX) (c : Mn Fl) : TS := fun D σ H => ∃ ρ Z, SOk T ρ σ H Z ∧ PoS T ρ σ H Z (c ρ) W D
end
structure SS (X : Cx) (st : Stmt) (c : Mn Fl) : Prop where
  run : ∀ W, Takes X W → PS X st (tS (tx X) W c)
structure SSs (X : Cx) (sts : List Stmt) (c : Mn Fl) : Prop where
  run : ∀ W, Takes X W → PSs X sts (tS (tx X) W c)
theorem tS_of {t : TS} {T : Tx} {W : WX} {m : Mn Fl} (h : ∀ ρ σ H Z D, SOk T ρ σ H Z → PoS T ρ σ H Z (m ρ) W D → t D σ H) : ∀ D σ H, tS T W m D σ H → t D σ H := fun D σ H ⟨ρ, Z, S, p⟩ => h ρ σ H Z D S p

section
variable {X : Cx} {e a b : Expr} {c ca cb : Mn Rv} {ta : Mn Bool} {st : Stmt} {sts rest : List Stmt} {m u : Mn Fl} {pos : Pos} {i : Nat} {x : Str}
theorem ss_pass : SS X (.Pass pos) cPass := ⟨fun W tk => psI (t := tNext) ⟨fun pins s σ H D I h => wpAny_Pass ⟨σ, H, I, h⟩⟩ (tS_of fun ρ σ H Z D S p => p σ H Z S (.refl _ _ _ _))⟩
theorem ss_brk : SS X (.Break pos) cBrk := ⟨fun W tk => psI ps_break (tS_of fun ρ σ H Z D S p => p σ H Z S (.refl _ _ _ _))⟩
theorem ss_cnt : SS X (.Continue pos) cCnt := ⟨fun W tk => psI ps_continue (tS_of fun ρ σ H Z D S p => p σ H Z S (.refl _ _ _ _))⟩
theorem sss_nil : SSs X [] cPass := ⟨fun W tk => pssI pss_nil (tS_of fun ρ σ H Z D S p => p σ H Z S (.refl _ _ _ _))⟩
theorem sss_one (h : SS X st m) : SSs X [st] m := ⟨fun W tk => pss_one (h.run W tk)⟩
theorem sss_cons (h : SS X st m) (hr : SSs X rest u) : SSs X (st :: rest) (cSeq m u) :=
  ⟨fun W tk => pssI (pss_cons (h.run W tk) (hr.run W tk)) (tS_of fun ρ σ H Z D S p => ⟨ρ, Z, S, by
    unfold cSeq at p
    cases q : m ρ with
    | stuck => rw [q] at p; exact p
    | exc x ρ' => rw [q] at p; exact p
    | ok f ρ' =>
      rw [q] at p
      cases f with
      | nx => exact fun σ' H' Z' S' E' => ⟨ρ', Z', S', p.later E'⟩
      | brk => exact p
      | cnt => exact p
      | ret r => exact p⟩)⟩
theorem ss_expr (he : SE X e c) (hs : swapsWith e none pos.line X.env = pure false := by rfl) : SS X (.Expr e pos) (cExpr c) :=
  ⟨fun W tk => psI (ps_expr (he.run W tk) hs) (tS_of fun ρ σ H Z D S p => ⟨ρ, Z, S, p.bnd (k := kE) fun r v ρ1 H1 Z1 S1 E1 o1 p1 => p1 σ H1 Z1 S1 (.refl _ _ _ _)⟩)⟩
theorem ss_doc {z : Str} {j : Nat} {pos' : Pos} : SS X (.Expr (.Constant (.str z) j pos) pos') cPass := ⟨fun W tk => psI ps_doc (tS_of fun ρ σ H Z D S p => p σ H Z S (.refl _ _ _ _))⟩
theorem ss_ret (he : SE X e c) : SS X (.Return (some e) pos) (cRet c) :=
  ⟨fun W tk => psI (ps_ret (he.run W tk)) (tS_of fun ρ σ H Z D S p => ⟨ρ, Z, S, by
    unfold cRet CI.bnd at p
    cases q : c ρ with
    | stuck => rw [q] at p; exact p
    | exc x ρ' => rw [q] at p; exact fun cls d H' Z' S E q => p cls d σ H' Z' S E.step q
    | ok r ρ' =>
      rw [q] at p
      intro v H' Z' S' E' o'
      cases r with
      | val d => exact p v σ H' Z' S' E'.step o'
      | bor d => exact p.elim
      | own d =>
        obtain ⟨a, e, r, z, n, _, _, n3⟩ := o'
        exact p v σ H' Z' S' E'.step ⟨a, e, r, z, n, n3⟩⟩)⟩
theorem ss_retN : SS X (.Return none pos) cRetN := ⟨fun W tk => psI ps_retN (tS_of fun ρ σ H Z D S p => p .non σ H Z S (.refl _ _ _ _) rfl)⟩
theorem ss_if {t : Expr} {as bs : List Stmt} (ht : STt X t ta) (ha : SSs X as m) (hb : SSs X bs u) : SS X (.If t as bs pos) (cIfS ta m u) :=
  ⟨fun W tk => psI (ps_if (ht.run W tk) (ha.run W tk) (hb.run W tk)) (tS_of fun ρ σ H Z D S p => ⟨ρ, Z, S, p.bnd (k := kB) fun r v ρ1 H1 Z1 S1 E1 o1 p1 => by
    cases o1
    cases r with
    | true => exact ⟨ρ1, Z1, S1, p1⟩
    | false => exact ⟨ρ1, Z1, S1, p1⟩⟩)⟩

/-! stores to names -/
theorem set_getV {σ : L2.St} {s : Option V} {j : Nat} {s' : Option V} (h : (σ.set i s)[j]? = some s') : (i = j ∧ s' = s) ∨ (i ≠ j ∧ σ[j]? = some s') := by
  by_cases hj : i = j
  · subst hj
    by_cases hl : i < σ.length
    · rw [List.getElem?_set_self hl] at h; exact .inl ⟨rfl, (Option.some.inj h).symm⟩
    · rw [List.getElem?_eq_none (by simpa using hl)] at h; cases h
  · rw [List.getElem?_set_ne hj] at h; exact .inr ⟨hj, h⟩
theorem own_set {ρ : En} {σ : L2.St} {s : Sl} {v : V} {a : Addr} (h : OwnA (ρ.set i s) (σ.set i (some v)) a) : (∃ d, s = .own d ∧ v = .ref a) ∨ OwnA ρ σ a := by
  obtain ⟨j, d, h1, h2⟩ := h
  rcases set_get h1 with ⟨rfl, e⟩ | ⟨hj, e⟩
  · rcases set_getV h2 with ⟨_, e2⟩ | ⟨hj, _⟩
    · exact .inl ⟨d, e.symm, (Option.some.inj e2).symm⟩
    · exact absurd rfl hj
  · rw [List.getElem?_set_ne hj] at h2
    exact .inr ⟨j, d, e, h2⟩
theorem bor_set {ρ : En} {σ : L2.St} {s : Sl} {v : V} {a : Addr} (hs : ∀ d, s ≠ .bor d) (h : BorA (ρ.set i s) (σ.set i (some v)) a) : BorA ρ σ a := by
  obtain ⟨j, d, h1, h2⟩ := h
  rcases set_get h1 with ⟨rfl, e⟩ | ⟨hj, e⟩
  · exact absurd e.symm (hs d)
  · rw [List.getElem?_set_ne hj] at h2
    exact ⟨j, d, e, h2⟩
/-- a value is stored -/
theorem SOk.store {T : Tx} {ρ : En} {σ : L2.St} {H Z : Hp} (S : SOk T ρ σ H Z) {s : Sl} {v : V} (nb : ∀ d, s ≠ .bor d) (hs : SlOk T H Z (some (some v)) s) (hn : ∀ d a, s = .own d → v = .ref a → ¬ OwnA ρ σ a ∧ ¬ BorA ρ σ a) :
    SOk T (ρ.set i s) (σ.set i (some v)) H Z := by
  refine ⟨by rw [List.length_set, List.length_set]; exact S.len, S.sub, fun j s' hj => ?_, fun j k d1 d2 a h1 h2 h3 h4 => ?_, fun a ha hb => ?_⟩
  · rcases set_get hj with ⟨rfl, rfl⟩ | ⟨hne, hj'⟩
    · have hl : i < σ.length := by
        rcases Nat.lt_or_ge i ρ.length with h | h
        · rw [← S.len]; exact h
        · rw [List.getElem?_eq_none (by simpa using h)] at hj; cases hj
      rw [List.getElem?_set_self hl]; exact hs
    · rw [List.getElem?_set_ne hne]; exact S.slot j s' hj'
  · rcases set_get h1 with ⟨rfl, e1⟩ | ⟨n1, h1⟩
    · rcases set_get h2 with ⟨e, _⟩ | ⟨n2, h2⟩
      · exact e
      · rcases set_getV h3 with ⟨_, ev⟩ | ⟨z, _⟩
        · rw [List.getElem?_set_ne n2] at h4
          exact absurd ⟨k, d2, h2, h4⟩ (hn d1 a e1.symm (Option.some.inj ev).symm).1
        · exact absurd rfl z
    · rcases set_get h2 with ⟨rfl, e2⟩ | ⟨n2, h2⟩
      · rcases set_getV h4 with ⟨_, ev⟩ | ⟨z, _⟩
        · rw [List.getElem?_set_ne n1] at h3
          exact absurd ⟨j, d1, h1, h3⟩ (hn d2 a e2.symm (Option.some.inj ev).symm).1
        · exact absurd rfl z
      · rw [List.getElem?_set_ne n1] at h3
        rw [List.getElem?_set_ne n2] at h4
        exact S.inj j k d1 d2 a h1 h2 h3 h4
  · have hb' := bor_set nb hb
    rcases own_set ha with ⟨d, e, ev⟩ | ha'
    · exact (hn d a e ev).2 hb'
    · exact S.sep a ha' hb'
theorem Step.store {T : Tx} {ρ : En} {σ : L2.St} {H Z : Hp} {s : Sl} {v : V} (nb : ∀ d, s ≠ .bor d) (hn : ∀ d, s ≠ .own d) : Step ρ σ H Z (ρ.set i s) (σ.set i (some v)) H Z :=
  ⟨fun _ _ h _ => h, .refl _, fun _ _ h => .inl h, fun a h => (own_set h).elim (fun ⟨d, e, _⟩ => absurd e (hn d)) .inl, fun _ h => h, fun j d h => by
    rcases set_get h with ⟨_, e⟩ | ⟨hj, e⟩
    · exact absurd e.symm (nb d)
    · exact ⟨e, by rw [List.getElem?_set_ne hj]⟩, fun j d h o => by
    rcases set_get h with ⟨_, e⟩ | ⟨hj, e⟩
    · exact absurd e.symm (hn d)
    · exact ⟨⟨d, e, o⟩, by rw [List.getElem?_set_ne hj]⟩⟩
theorem set_ok {W : WX} {hN : X.N.Nodup} : ∀ D σ H, tS (tx X) W (cSet i c) D σ H → tAsg (tK kE (tx X) W c) (gName i) D σ H := tS_of fun ρ σ H Z D S p => by
  refine ⟨ρ, Z, S, ?_⟩
  unfold cSet CI.bnd at p
  cases q : c ρ with
  | stuck => rw [q] at p; exact p
  | exc x ρ' => rw [q] at p; exact fun cls d H' Z' S E q => p cls d σ H' Z' S E.step q
  | ok r ρ' =>
    rw [q] at p
    intro v H' Z' S' E' o'
    cases r with
    | val d => exact p _ _ _ (S'.store (fun _ z => by cases z) ⟨v, rfl, o'⟩ fun _ _ z => by cases z) (E'.step.trans (.store (T := tx X) (fun _ z => by cases z) fun _ z => by cases z))
    | bor d => exact p.elim
    | own d =>
      obtain ⟨a, e, r, z, n, n1, n2, n3⟩ := o'
      subst e
      refine p _ _ _ (S'.store (fun _ z => by cases z) ⟨a, rfl, r, z⟩ fun d' a' e e' => by cases e; cases e'; exact ⟨n1, n2⟩)
        ⟨E'.step.frame, E'.step.le, E'.step.grow, fun b h => ?_, E'.step.kept, fun j d' h => ?_, fun j d' h ob => ?_⟩
      · rcases own_set h with ⟨_, _, ev⟩ | h
        · cases ev; exact n.elim .inr .inl
        · exact E'.step.own b h
      · rcases set_get h with ⟨_, e⟩ | ⟨hj, e⟩
        · cases e
        · rw [List.getElem?_set_ne hj]; exact E'.step.bor j d' e
      · rcases set_get h with ⟨_, e⟩ | ⟨hj, e⟩
        · cases e; rw [n3] at ob; cases ob
        · rw [List.getElem?_set_ne hj]; exact E'.step.obj j d' e ob
theorem ss_set {pos' : Pos} (hN : X.N.Nodup) (hi : X.N[i]? = some x) (hx : Loc X.env.scope x) (he : SE X e c) (hs : swapsWith e (some (.Name x pos')) pos.line X.env = pure false := by rfl) (hf : X.fn x = true ∨ X.env.scope.names.lookup x = some .local := by first | exact .inl rfl | exact .inr rfl | assumption) :
    SS X (.Assign [.Name x pos'] e pos) (cSet i c) := ⟨fun W tk => psI (ps_set hN hi hx (he.run W tk) hs hf) (set_ok (hN := hN))⟩
/-! targets -/
/-- behind a store -/
def PoN (T : Tx) (ρ : En) (σ : L2.St) (H Z : Hp) (o : Out Unit) (W : WX) (Q : L2.St → Hp → Prop) : Prop := match o with
  | .ok _ ρ' => ∀ σ' H' Z', SOk T ρ' σ' H' Z' → Step ρ σ H Z ρ' σ' H' Z' → Q σ' H'
  | .exc x ρ' => ∀ cls d σ' H' Z', SOk T ρ' σ' H' Z' → Step ρ σ H Z ρ' σ' H' Z' → XOk T Z' x cls d → W cls d σ' H'
  | .stuck => False
section
variable {T : Tx} {ρ ρ1 : En} {σ σ1 : L2.St} {H H1 Z Z1 : Hp} {W : WX}
theorem PoN.later {o : Out Unit} {Q : L2.St → Hp → Prop} (h : PoN T ρ σ H Z o W Q) (s : Step ρ σ H Z ρ1 σ1 H1 Z1) : PoN T ρ1 σ1 H1 Z1 o W Q := by
  cases o with
  | stuck => exact h
  | exc x ρ' => exact fun cls d σ' H' Z' S E q => h cls d σ' H' Z' S (s.trans E) q
  | ok f ρ' => exact fun σ' H' Z' S E => h σ' H' Z' S (s.trans E)
/-- an expression ahead of a store -/
theorem PoN.bndE {k : Kd α β} {m : Mn α} {f : α → Mn Unit} {Q : L2.St → Hp → Prop} {R : β → Hp → Prop} (h : PoN T ρ σ H Z (CI.bnd m f ρ) W Q)
    (hk : ∀ r b ρ1 H1 Z1, SOk T ρ1 σ H1 Z1 → EStep ρ σ H Z ρ1 H1 Z1 → k.ok T ρ σ H ρ1 H1 Z1 b r → PoN T ρ1 σ H1 Z1 (f r ρ1) W Q → R b H1) : Po k T ρ σ H Z (m ρ) W R := by
  unfold CI.bnd at h
  cases e : m ρ with
  | ok a ρ' => rw [e] at h; exact fun b H' Z' S E q => hk a b ρ' H' Z' S E q (h.later E.step)
  | exc x ρ' => rw [e] at h; exact fun cls d H' Z' S E q => h cls d σ H' Z' S E.step q
  | stuck => rw [e] at h; exact h
/-- two stores -/
theorem PoN.bnd {m : Mn Unit} {f : Unit → Mn Unit} {Q R : L2.St → Hp → Prop} (h : PoN T ρ σ H Z (CI.bnd m f ρ) W Q)
    (hk : ∀ ρ1 σ1 H1 Z1, SOk T ρ1 σ1 H1 Z1 → Step ρ σ H Z ρ1 σ1 H1 Z1 → PoN T ρ1 σ1 H1 Z1 (f () ρ1) W Q → R σ1 H1) : PoN T ρ σ H Z (m ρ) W R := by
  unfold CI.bnd at h
  cases e : m ρ with
  | ok a ρ' => rw [e] at h; exact fun σ' H' Z' S E => hk ρ' σ' H' Z' S E (h.later E)
  | exc x ρ' => rw [e] at h; exact h
  | stuck => rw [e] at h; exact h
/-- a store, then a statement -/
theorem PoS.bndN {m : Mn Unit} {f : Unit → Mn Fl} {Dn : Ends} {R : L2.St → Hp → Prop} (h : PoS T ρ σ H Z (CI.bnd m f ρ) W Dn)
    (hk : ∀ ρ1 σ1 H1 Z1, SOk T ρ1 σ1 H1 Z1 → Step ρ σ H Z ρ1 σ1 H1 Z1 → PoS T ρ1 σ1 H1 Z1 (f () ρ1) W Dn → R σ1 H1) : PoN T ρ σ H Z (m ρ) W R := by
  unfold CI.bnd at h
  cases e : m ρ with
  | ok a ρ' => rw [e] at h; exact fun σ' H' Z' S E => hk ρ' σ' H' Z' S E (h.later E)
  | exc x ρ' => rw [e] at h; exact h
  | stuck => rw [e] at h; exact h
def tG (T : Tx) (W : WX) (t : Tg) : TG := fun v σ H Q => ∃ ρ Z d, SOk T ρ σ H Z ∧ Rep T Z d v ∧ PoN T ρ σ H Z (t d ρ) W Q
def tGs (T : Tx) (W : WX) (ts : List Tg) : TGs := fun vs σ H Q => ∃ ρ Z ds, SOk T ρ σ H Z ∧ Reps T Z ds vs ∧ PoN T ρ σ H Z (tAll ts ds ρ) W Q
end
/-- an own object changes -/
theorem SOk.mut {T : Tx} {ρ : En} {σ : L2.St} {H Z : Hp} (S : SOk T ρ σ H Z) {d d' : D} {a : Addr} {o : HO} (h : ρ[i]? = some (.own d)) (ha : σ[i]? = some (some (.ref a))) (hr : OR T (upd H a o) Z a d') (ho : isObj d' = true → isObj d = true) :
    SOk T (ρ.set i (.own d')) σ (upd H a o) Z ∧ Step ρ σ H Z (ρ.set i (.own d')) σ (upd H a o) Z := by
  have oa : OwnA ρ σ a := ⟨i, d, h, ha⟩
  have za : Z a = none := (S.own oa).1
  have own_in : ∀ {b : Addr}, OwnA (ρ.set i (.own d')) σ b → OwnA ρ σ b := fun {b} ⟨j, d2, h1, h2⟩ => by
    rcases set_get h1 with ⟨rfl, e⟩ | ⟨_, e⟩
    · exact ⟨i, d, h, h2⟩
    · exact ⟨j, d2, e, h2⟩
  have bor_in : ∀ {b : Addr}, BorA (ρ.set i (.own d')) σ b → BorA ρ σ b := fun {b} hb => hb.set_out fun _ z => by cases z
  refine ⟨⟨by rw [List.length_set]; exact S.len, fun b u e => ?_, fun j s' hj => ?_, fun j k d1 d2 b h1 h2 h3 h4 => ?_, fun b hb hc => S.sep b (own_in hb) (bor_in hc)⟩, ?_⟩
  · have hb : b ≠ a := fun z => by rw [z, za] at e; cases e
    rw [upd_ne hb]; exact S.sub b u e
  · rcases set_get hj with ⟨rfl, rfl⟩ | ⟨hne, hj⟩
    · exact ⟨a, ha, hr, za⟩
    · have z := S.slot j s' hj
      cases s' with
      | emp => trivial
      | exn _ => exact z
      | val d2 => exact z
      | own d2 =>
        obtain ⟨b, e, r, zn⟩ := z
        have hb : b ≠ a := fun z => by subst z; exact hne (S.inj i j d d2 b h hj ha e)
        exact ⟨b, e, r.mono (upd_ne hb) (.refl _), zn⟩
      | bor d2 =>
        obtain ⟨b, e, r⟩ := z
        have hb : b ≠ a := fun z => by subst z; exact S.sep b oa ⟨j, d2, hj, e⟩
        exact ⟨b, e, r.mono (upd_ne hb) (.refl _)⟩
  · have g1 : ∃ d1', ρ[j]? = some (.own d1') := by
      rcases set_get h1 with ⟨rfl, _⟩ | ⟨_, e⟩
      · exact ⟨d, h⟩
      · exact ⟨d1, e⟩
    have g2 : ∃ d2', ρ[k]? = some (.own d2') := by
      rcases set_get h2 with ⟨rfl, _⟩ | ⟨_, e⟩
      · exact ⟨d, h⟩
      · exact ⟨d2, e⟩
    obtain ⟨_, g1⟩ := g1
    obtain ⟨_, g2⟩ := g2
    exact S.inj j k _ _ b g1 g2 h3 h4
  · refine ⟨fun b u e n => ?_, .refl _, fun b u e => .inl e, fun b hb => .inl (own_in hb), fun b ⟨u, e⟩ => ?_, fun j d2 hj => ?_, fun j d2 hj ob => ?_⟩
    · have hb : b ≠ a := fun z => n (z ▸ oa)
      rw [upd_ne hb]; exact e
    · by_cases hb : b = a
      · subst hb; exact ⟨_, upd_same⟩
      · exact ⟨u, by rw [upd_ne hb]; exact e⟩
    · rcases set_get hj with ⟨_, e⟩ | ⟨_, e⟩
      · cases e
      · exact ⟨e, rfl⟩
    · rcases set_get hj with ⟨rfl, e⟩ | ⟨_, e⟩
      · cases e; exact ⟨⟨d, h, ho ob⟩, rfl⟩
      · exact ⟨⟨d2, e, ob⟩, rfl⟩
/-- a target of the text -/
structure SG (X : Cx) (e : Expr) (t : Tg) : Prop where
  run : ∀ W, Takes X W → PG X e (tG (tx X) W t)
structure SGs (X : Cx) (es : List Expr) (ts : List Tg) : Prop where
  run : ∀ W, Takes X W → PGs X es (tGs (tx X) W ts)
theorem pgI {t u : TG} (h : PG X e t) (k : ∀ v σ H Q, u v σ H Q → t v σ H Q) : PG X e u := ⟨fun pins s σ H v uv Q I r q => h.run pins s σ H v uv Q I r (k v σ H Q q)⟩
theorem pgsI {es : List Expr} {t u : TGs} (h : PGs X es t) (k : ∀ v σ H Q, u v σ H Q → t v σ H Q) : PGs X es u := ⟨fun pins s σ H v uv Q I r q => h.run pins s σ H v uv Q I r (k v σ H Q q)⟩
theorem sg_nm (hN : X.N.Nodup) (hi : X.N[i]? = some x) (hx : Loc X.env.scope x) (hf : X.fn x = true ∨ X.env.scope.names.lookup x = some .local := by first | exact .inl rfl | exact .inr rfl | assumption) : SG X (.Name x pos) (tNm i) :=
  ⟨fun W tk => pgI (pg_name hN hi hx hf) fun v σ H Q ⟨ρ, Z, d, S, r, p⟩ => p _ _ _ (S.store (fun _ z => by cases z) ⟨v, rfl, r⟩ fun _ _ z => by cases z) (.store (T := tx X) (fun _ z => by cases z) fun _ z => by cases z)⟩
theorem sgs_nil : SGs X [] [] := ⟨fun W tk => pgsI pgs_nil fun v σ H Q ⟨ρ, Z, ds, S, r, p⟩ => by
  cases ds with
  | nil => exact ⟨r, p σ H Z S (.refl _ _ _ _)⟩
  | cons d ds => exact p.elim⟩
theorem sgs_cons {es : List Expr} {t : Tg} {ts : List Tg} (h1 : SG X e t) (h2 : SGs X es ts) (hs : (assignEach (e :: es) X.env).map (·.2) = assign e X.env :: (assignEach es X.env).map (·.2) := by rfl) : SGs X (e :: es) (t :: ts) :=
  ⟨fun W tk => pgsI (pgs_cons (h1.run W tk) (h2.run W tk) hs) fun v σ H Q ⟨ρ, Z, ds, S, r, p⟩ => by
    cases ds with
    | nil => exact p.elim
    | cons d ds =>
      obtain ⟨v0, vr, rfl, q1, q2⟩ := r
      exact ⟨v0, vr, rfl, ρ, Z, d, S, q1, PoN.bnd (T := tx X) p fun ρ1 σ1 H1 Z1 S1 E1 p1 => ⟨ρ1, Z1, ds, S1, q2.mono E1.le, p1⟩⟩⟩
theorem sg_tup {es : List Expr} {k : Nat} {ts : List Tg} (hc : X.calm = true) (h : SGs X es ts) (hn : (assignEach es X.env).length = ts.length := by rfl) (hst : (assignEach es X.env).findIdx? (·.1) = none := by rfl) : SG X (.Tuple es k pos) (tTup ts) :=
  ⟨fun W tk => pgI (pg_tup hc (h.run W tk) hn hst) fun v σ H Q ⟨ρ, Z, d, S, r, p⟩ => by
    cases d with
    | tup ds =>
      obtain ⟨a, vs, rfl, q, r⟩ := r
      simp only [tTup] at p
      by_cases hl : ds.length = ts.length
      · rw [if_pos hl] at p
        exact ⟨a, vs, rfl, S.sub.sqT q, by rw [← r.length]; exact hl, ρ, Z, ds, S, r, p⟩
      · rw [if_neg hl] at p; exact p.elim
    | _ => exact p.elim⟩
theorem needOwn_ok {T : Tx} {ρ : En} {σ : L2.St} {H Z : Hp} (S : SOk T ρ σ H Z) (h : ¬ needOwn i ρ = .stuck) : ∃ ds a vs, ρ[i]? = some (.own (.lst ds)) ∧ σ[i]? = some (some (.ref a)) ∧ H a = some (.lst vs) ∧ Reps T Z ds vs ∧ needOwn i ρ = .ok () ρ := by
  unfold needOwn at h ⊢
  cases q : ρ[i]? with
  | none => rw [q] at h; exact absurd rfl h
  | some s =>
    rw [q] at h
    cases s with
    | own d =>
      cases d with
      | lst ds =>
        obtain ⟨a, e, ⟨vs, r1, r2⟩, _⟩ := S.slot i _ q
        exact ⟨ds, a, vs, rfl, e, r1, r2, rfl⟩
      | _ => exact absurd rfl h
    | _ => exact absurd rfl h
theorem mutU_ok {T : Tx} {ρ : En} {f : D → Option D} (h : ¬ mutU i f ρ = .stuck) : ∃ d d', ρ[i]? = some (.own d) ∧ f d = some d' ∧ mutU i f ρ = .ok () (ρ.set i (.own d')) := by
  unfold mutU at h ⊢
  cases q : ρ[i]? with
  | none => rw [q] at h; exact absurd rfl h
  | some s =>
    rw [q] at h
    cases s with
    | own d =>
      cases hf : f d with
      | none => simp only [hf] at h; exact absurd trivial h
      | some d' => exact ⟨d, d', rfl, hf, by simp only [hf]⟩
    | _ => exact absurd rfl h
theorem PoN.ns {T : Tx} {ρ : En} {σ : L2.St} {H Z : Hp} {W : WX} {Q : L2.St → Hp → Prop} {o : Out Unit} (p : PoN T ρ σ H Z o W Q) : ¬ o = .stuck := fun e => by rw [e] at p; exact p
theorem PoN.need {T : Tx} {ρ : En} {σ : L2.St} {H Z : Hp} {W : WX} {Q : L2.St → Hp → Prop} {f : Unit → Mn Unit} (S : SOk T ρ σ H Z) (p : PoN T ρ σ H Z (CI.bnd (needOwn i) f ρ) W Q) :
    ∃ ds a vs, ρ[i]? = some (.own (.lst ds)) ∧ σ[i]? = some (some (.ref a)) ∧ H a = some (.lst vs) ∧ Reps T Z ds vs ∧ PoN T ρ σ H Z (f () ρ) W Q := by
  have hn : ¬ needOwn i ρ = .stuck := fun e => by unfold CI.bnd at p; rw [e] at p; exact p
  obtain ⟨ds, a, vs, h1, h2, h3, h4, h5⟩ := needOwn_ok S hn
  unfold CI.bnd at p
  rw [h5] at p
  exact ⟨ds, a, vs, h1, h2, h3, h4, p⟩
theorem PoS.need {T : Tx} {ρ : En} {σ : L2.St} {H Z : Hp} {W : WX} {Dn : Ends} {f : Unit → Mn Fl} (S : SOk T ρ σ H Z) (p : PoS T ρ σ H Z (CI.bnd (needOwn i) f ρ) W Dn) :
    ∃ ds a vs, ρ[i]? = some (.own (.lst ds)) ∧ σ[i]? = some (some (.ref a)) ∧ H a = some (.lst vs) ∧ Reps T Z ds vs ∧ PoS T ρ σ H Z (f () ρ) W Dn := by
  have hn : ¬ needOwn i ρ = .stuck := fun e => by unfold CI.bnd at p; rw [e] at p; exact p
  obtain ⟨ds, a, vs, h1, h2, h3, h4, h5⟩ := needOwn_ok S hn
  unfold CI.bnd at p
  rw [h5] at p
  exact ⟨ds, a, vs, h1, h2, h3, h4, p⟩
/-- the store of an own list's item -/
theorem setIx_ok {T : Tx} {ρ : En} {σ : L2.St} {H Z : Hp} {W : WX} {Q : L2.St → Hp → Prop} {kd d : D} {v w : V} (S : SOk T ρ σ H Z) (p : PoN T ρ σ H Z (mutU i (setD kd d) ρ) W Q) (hi : σ[i]? = some (some v)) (hk : RdOk T H Z w kd) {u : V} (hd : Rep T Z d u) :
    rSetL v w u H fun H3 => Q σ H3 := by
  obtain ⟨d0, d', h1, h2, h3⟩ := mutU_ok (T := T) p.ns
  rw [h3] at p
  unfold setD at h2
  split at h2
  · rename_i ds
    split at h2
    · rename_i n
      cases hj : ixN ds.length n with
      | none => rw [hj] at h2; cases h2
      | some j =>
        rw [hj] at h2; cases h2
        obtain ⟨a, e, ⟨vs, r1, r2⟩, _⟩ := S.slot i _ h1
        rw [hi] at e; cases e
        have M := S.mut (d' := .lst (ds.set j d)) (o := .lst (vs.set j u)) h1 hi ⟨vs.set j u, upd_same, r2.set hd j⟩ fun z => by cases z
        exact ⟨a, vs, n, j, rfl, rd_int hk, r1, by rw [← r2.length]; exact hj, p σ _ Z M.1 M.2⟩
    · cases h2
  · cases h2
theorem sg_sub {k : Expr} {ck : Mn Rv} {po : Pos} (hN : X.N[i]? = some x) (hv : Vis X.env.scope x) (hk : SE X k ck) (hd : (x == ("__debug__" : Str)) = false := by decide) (hcd : (x == ("__classdict__" : Str)) = false := by decide)
    (ha : ∀ v, assign (.Subscript (.Name x po) k pos) X.env v = (do
      let ov ← holding [v] (eval (.Name x po) X.env)
      let iv ← holding [v, ov] (eval k X.env)
      standAt pos
      holding [v, ov, iv] (setItem ov iv v)
      release [v, ov, iv] []) := by intro _; rfl) : SG X (.Subscript (.Name x po) k pos) (tSub i ck) :=
  ⟨fun W tk => pgI (pg_sub (pe_var hN hv hd hcd) (hk.run W tk) set_list ha) fun v σ H Q ⟨ρ, Z, d, S, r, p⟩ => by
    obtain ⟨ds, a, vs, h1, h2, h3, h4, p1⟩ := PoN.need S p
    have p1 : PoN (tx X) ρ σ H Z (CI.bnd ck (fun r => mutU i (setD r.d d)) ρ) W Q := by
      have e : CI.bnd (cR ck) (fun kd => mutU i (setD kd d)) = CI.bnd ck (fun r => mutU i (setD r.d d)) := by unfold cR; rw [bnd_assoc]; rfl
      rw [← e]; exact p1
    exact ⟨_, h2, ρ, Z, S, p1.bndE (k := kE) fun rk v1 ρ1 H1 Z1 S1 E1 o1 p2 => setIx_ok S1 p2 h2 (RvOk.read o1) (Rep.mono E1.step.le r)⟩⟩
theorem ss_setT {tg : Expr} {t : Tg} {cd : Mn D} (he : SD X e cd) (hg : SG X tg t) (hs : swapsWithSole [tg] e pos.line X.env = pure false := by rfl) (hw : swappedStores [tg] e X.env = pure none := by rfl)
    (h1 : (assignEach [tg] X.env).map (·.2) = [assign tg X.env] := by rfl) : SS X (.Assign [tg] e pos) (cSetT t cd) :=
  ⟨fun W tk => psI (ps_asg (he.run W tk) (hg.run W tk) hs hw h1) (tS_of fun ρ σ H Z Dn S p => ⟨ρ, Z, S, p.bnd (k := kD) fun d v ρ1 H1 Z1 S1 E1 o1 p1 =>
    ⟨ρ1, Z1, d, S1, o1, PoS.bndN (T := tx X) p1 fun ρ2 σ2 H2 Z2 S2 E2 p2 => p2 σ2 H2 Z2 S2 (.refl _ _ _ _)⟩⟩)⟩
end
end CI
end
section
set_option maxRecDepth 100000
/-! CILoop: append, op=, loops. -/
namespace CI
open PySem L2 PyProof.Rows
section
variable {X : Cx} {e a b k : Expr} {c ca cb ck : Mn Rv} {ta : Mn Bool} {st : Stmt} {body : List Stmt} {m u : Mn Fl} {pos po pc : Pos} {i : Nat} {x : Str}
theorem bnd_cR {f : D → Mn α} : CI.bnd (cR c) f = CI.bnd c fun r => f r.d := by unfold cR; rw [bnd_assoc]; rfl
theorem ss_app {apos cpos : Pos} (hN : X.N[i]? = some x) (hv : Vis X.env.scope x) (he : SE X e c) (hd : (x == ("__debug__" : Str)) = false := by decide) (hcd : (x == ("__classdict__" : Str)) = false := by decide)
    (hbase : attributeBase (.Name x po) "append" X.env (eval (.Name x po) X.env) = eval (.Name x po) X.env := by rfl)
    (hfew : ((backTo cpos (starEach [e] X.env)).all (fun x => !x.1) && (backToKw cpos (keywordEach [] X.env)).all (fun x => x.1.isSome)
      && decide (([e] : List Expr).length + ([] : List Keyword).length + (if ([] : List Keyword).isEmpty then 0 else 1) < 30)) = true := by rfl)
    (hline : (apos.endLine == cpos.line) = true := by rfl) (hs : starEach [e] X.env = (false, eval e X.env) :: starEach [] X.env := by rfl) (hplain : (backTo cpos (starEach [] X.env)).any (·.1) = false := by rfl)
    (hsw : swapsWith (.Call (.Attribute (.Name x po) "append" apos) [e] [] cpos) none pos.line X.env = pure false := by rfl) :
    SS X (.Expr (.Call (.Attribute (.Name x po) "append" apos) [e] [] cpos) pos) (cApp i c) :=
  ⟨fun W tk => psI (ps_expr (pe_bm PySem.F.plainAttrs_list PySem.F.slot_list_append PySem.F.type_list_append mt_append (pe_var hN hv hd hcd) (pa_cons ((sd_v he).run W tk) pa_nil hs) hbase hfew hline hs hplain) hsw) (tS_of fun ρ σ H Z Dn S p => by
    obtain ⟨ds, a, vs, h1, h2, h3, h4, p1⟩ := PoS.need S p
    refine ⟨_, h2, .inl ⟨rfl, vs, .of h3⟩, ρ, Z, S, p1.bnd (k := kD) fun d v ρ1 H1 Z1 S1 E1 o1 p2 => ?_⟩
    have p3 := PoS.bndN (R := fun σ' H' => Dn.nx σ' H') p2 fun ρ2 σ2 H2 Z2 S2 E2 p4 => p4 σ2 H2 Z2 S2 (.refl _ _ _ _)
    obtain ⟨d0, d', g1, g2, g3⟩ := mutU_ok (T := tx X) p3.ns
    rw [g3] at p3
    unfold appD at g2
    split at g2
    · rename_i ds'
      split at g2
      · rename_i hz
        cases g2
        obtain ⟨a', e', ⟨vs', r1, r2⟩, _⟩ := S1.slot i _ g1
        rw [h2] at e'; cases e'
        have M := S1.mut (d' := .lst (ds' ++ [d])) (o := .lst (vs' ++ [v])) g1 h2 ⟨_, upd_same, r2.append (.single o1)⟩ fun z => by cases z
        exact ⟨a, vs', v, rfl, rfl, r1, by rw [← r2.length]; exact hz, p3 σ _ Z1 M.1 M.2⟩
      · cases g2
    · cases g2)⟩

/-! op= -/
/-- a number rule serves f -/
def FitsA (t : TIp) (f : D → D → Option D) : Prop := ∀ {T H Z dx dy x y d Q}, RdOk T H Z x dx → RdOk T H Z y dy → f dx dy = some d → (∀ v, (∀ Z', Rep T Z' d v) → Q v H) → t x y H Q
theorem fitsA_add : FitsA (ipI fun i j => i + j) augAdd := fun {T H Z dx dy x y d Q} h1 h2 e k => by
  unfold augAdd at e
  split at e
  · cases e; exact ⟨_, _, rd_int h1, rd_int h2, k _ fun _ => rfl⟩
  · cases e
theorem fitsA_sub : FitsA (ipI fun i j => i - j) augSub := fun {T H Z dx dy x y d Q} h1 h2 e k => by
  unfold augSub at e
  split at e
  · cases e; exact ⟨_, _, rd_int h1, rd_int h2, k _ fun _ => rfl⟩
  · cases e
theorem varOk {T : Tx} {ρ : En} {σ : L2.St} {H Z : Hp} {Dn : Ends} {W : WX} {f : Rv → Mn Fl} (S : SOk T ρ σ H Z) (p : PoS T ρ σ H Z (CI.bnd (cVar i) f ρ) W Dn) : ∃ r v, σ[i]? = some (some v) ∧ RdOk T H Z v r.d ∧ PoS T ρ σ H Z (f r ρ) W Dn := by
  unfold CI.bnd cVar at p
  cases q : ρ[i]? with
  | none => rw [q] at p; exact p.elim
  | some s =>
    have z := S.slot i s q
    rw [q] at p
    cases s with
    | emp => exact p.elim
    | exn _ => exact p.elim
    | val d => obtain ⟨v, ev, r⟩ := z; exact ⟨.val d, v, ev, .inl r, p⟩
    | own d => obtain ⟨a, ev, r, _⟩ := z; exact ⟨.bor d, _, ev, .inr ⟨a, rfl, r⟩, p⟩
    | bor d => obtain ⟨a, ev, r⟩ := z; exact ⟨.bor d, _, ev, .inr ⟨a, rfl, r⟩, p⟩
theorem PoS.ofO' {T : Tx} {ρ : En} {σ : L2.St} {H Z : Hp} {Dn : Ends} {W : WX} {o : Option α} {f : α → Mn Fl} (h : PoS T ρ σ H Z (CI.bnd (CI.ofO o) f ρ) W Dn) : ∃ a, o = some a ∧ PoS T ρ σ H Z (f a ρ) W Dn := PoS.ofO h
theorem ss_aug {op : Operator} {t : TIp} {f : D → D → Option D} {pos' : Pos} (hN : X.N.Nodup) (hi : X.N[i]? = some x) (hx : Loc X.env.scope x) (he : SE X e c) (ho : PIp X op t) (hf : FitsA t f)
    (hfn : X.fn x = true ∨ X.env.scope.names.lookup x = some .local := by first | exact .inl rfl | exact .inr rfl | assumption) : SS X (.AugAssign (.Name x pos') op e pos) (cAug f i c) :=
  ⟨fun W tk => psI (L2.ps_aug hN hi hx (he.run W tk) ho hfn) (tS_of fun ρ σ H Z Dn S p => by
    obtain ⟨r1, v1, e1, o1, p1⟩ := varOk S p
    refine ⟨v1, e1, ρ, Z, S, p1.bnd (k := kE) fun r2 v2 ρ2 H2 Z2 S2 E2 o2 p2 => ?_⟩
    obtain ⟨d, ed, p3⟩ := PoS.ofO p2
    exact hf (o1.mono E2.same E2.step.le) (RvOk.read o2) ed fun v q => p3 _ _ _ (S2.store (fun _ z => by cases z) ⟨v, rfl, q _⟩ fun _ _ z => by cases z) (.store (T := tx X) (fun _ z => by cases z) fun _ z => by cases z))⟩
/-- the item of a list, as op= reads it -/
theorem pg_list : PGet X (fun o i H Q => ∃ p xs n v, o = .ref p ∧ i = .int n ∧ SqL X.K H p xs ∧ 0 ≤ n ∧ atI xs n = some v ∧ Q v H) := by
  intro pins s σ H o i ov iv Q I ro ri h
  obtain ⟨p, xs, n, v, rfl, rfl, hq, h0, hv, q⟩ := h
  cases ro
  obtain ⟨t, rfl⟩ := ri
  obtain ⟨its, r, pl, hz⟩ := I.list hq
  obtain ⟨j, h1, h2, h3, h4, h5⟩ := atI_get hv
  obtain ⟨w, ew, rw'⟩ := r.get h2
  have hl := r.length
  have hn := line63
  have hj : n.toNat = j := by
    rw [seqIndex_of h0 h5] at h1
    exact Option.some.inj h1
  exact wpAny_getItem_list pl.isList h0 (by omega) (by rw [hj]; simpa using ew) ⟨v, H, I, rw', q⟩
theorem cGet_ok {k : D} {ρ : En} (h : ¬ cGet i k ρ = .stuck) : ∃ d0 dx, ρ[i]? = some (.own d0) ∧ getD k d0 = some dx ∧ cGet i k ρ = .ok dx ρ := by
  unfold cGet at h ⊢
  cases q : ρ[i]? with
  | none => rw [q] at h; exact absurd rfl h
  | some s =>
    rw [q] at h
    cases s with
    | own d =>
      cases hf : getD k d with
      | none => simp only [hf] at h; exact absurd rfl h
      | some d' => exact ⟨d, d', rfl, hf, by simp only [hf]; rfl⟩
    | _ => exact absurd rfl h
theorem ss_augIx {op : Operator} {t : TIp} {f : D → D → Option D} {tpos : Pos} (hN : X.N[i]? = some x) (hv : Vis X.env.scope x) (hk : SE X k ck) (he : SE X e c) (ho : PIp X op t) (hf : FitsA t f) (hd : (x == ("__debug__" : Str)) = false := by decide) (hcd : (x == ("__classdict__" : Str)) = false := by decide)
    (ha : ∀ ov iv new, augStore k ov iv new = (do holding [new, ov, iv] (setItem ov iv new); release [new, ov, iv] []; pure .next) := by intros; rfl) : SS X (.AugAssign (.Subscript (.Name x po) k tpos) op e pos) (cAugIx f i ck c) :=
  ⟨fun W tk => psI (ps_augS (pe_var hN hv hd hcd) (hk.run W tk) pg_list (he.run W tk) ho set_list ha) (tS_of fun ρ σ H Z Dn S p => by
    obtain ⟨ds, a, vs, h1, h2, h3, h4, p1⟩ := PoS.need S p
    rw [bnd_cR] at p1
    refine ⟨_, h2, ρ, Z, S, p1.bnd (k := kE) fun rk vk ρ1 H1 Z1 S1 E1 o1 p2 => ?_⟩
    have hn : ¬ cGet i rk.d ρ1 = .stuck := fun z => by unfold CI.bnd at p2; rw [z] at p2; exact p2
    obtain ⟨d0, dx, q, hg, eg⟩ := cGet_ok hn
    have p3 : PoS (tx X) ρ1 σ H1 Z1 (CI.bnd c (fun r => CI.bnd (ofO (f dx r.d)) fun d => CI.bnd (mutU i (setD rk.d d)) fun _ => ret .nx) ρ1) W Dn := by
      have e3 : CI.bnd c (fun r => CI.bnd (ofO (f dx r.d)) fun d => CI.bnd (mutU i (setD rk.d d)) fun _ => (ret Fl.nx : Mn Fl)) = CI.bnd (cR c) (fun y => CI.bnd (ofO (f dx y)) fun d => CI.bnd (mutU i (setD rk.d d)) fun _ => (ret Fl.nx : Mn Fl)) := by unfold cR; rw [bnd_assoc]; rfl
      rw [e3]
      unfold CI.bnd at p2
      rw [eg] at p2
      exact p2
    obtain ⟨a', e', rr, _⟩ := S1.slot i _ q
    rw [h2] at e'; cases e'
    unfold getD at hg
    split at hg
    · rename_i ds1
      obtain ⟨vs1, r1, r2⟩ := rr
      split at hg
      · rename_i n hkd
        split at hg
        · rename_i h0
          obtain ⟨vx, hvx, rx⟩ := atI_reps r2 hg
          have hkr := RvOk.read o1
          rw [hkd] at hkr
          refine ⟨a, vs1, n, vx, rfl, rd_int hkr, .of r1, h0, hvx, ?_⟩
          refine ⟨ρ1, Z1, S1, p3.bnd (k := kE) fun r2' v2 ρ2 H2 Z2 S2 E2 o2 p4 => ?_⟩
          obtain ⟨d, ed, p5⟩ := PoS.ofO p4
          refine hf (T := tx X) (.inl (rx.mono E2.step.le)) (RvOk.read o2) ed fun v qv => ?_
          have p6 := PoS.bndN (R := fun σ' H' => Dn.nx σ' H') p5 fun ρ3 σ3 H3 Z3 S3 E3 p7 => p7 σ3 H3 Z3 S3 (.refl _ _ _ _)
          exact setIx_ok S2 p6 h2 ((RvOk.read o1).mono E2.same E2.step.le) (qv _)
        · cases hg
      · cases hg
    · cases hg)⟩

/-! what loops walk -/
/-- J walks ds -/
def Src (T : Tx) (G : Addr → Prop) (ρ : En) (σ : L2.St) (H Z : Hp) (J : It) (ds : List D) : Prop :=
  ∃ P : List Addr, (∀ a ∈ P, (∃ o, H a = some o) ∧ ¬ OwnA ρ σ a ∧ G a) ∧
    ∀ H1 Z1, (∀ a ∈ P, H1 a = H a) → Le Z Z1 → Le Z1 H1 → J.stop ds.length H1 ∧
      ∀ (i : Nat) (d : D), ds[i]? = some d → J.go i H1 ∧ ∀ x H2, J.yld i H1 x H2 → Le H1 H2 ∧ ∃ Z2, Le Z1 Z2 ∧ Le Z2 H2 ∧ (∀ a o, Z2 a = some o → Z1 a = some o ∨ H1 a = none) ∧ Rep T Z2 d x
theorem Src.later {T : Tx} {G : Addr → Prop} {ρ ρ1 : En} {σ σ1 : L2.St} {H H1 Z Z1 : Hp} {J : It} {ds : List D} (h : Src T G ρ σ H Z J ds) (s : Step ρ σ H Z ρ1 σ1 H1 Z1) : Src T G ρ1 σ1 H1 Z1 J ds := by
  obtain ⟨P, hP, hs⟩ := h
  refine ⟨P, fun a ha => ?_, fun H2 Z2 h1 h2 h3 => hs H2 Z2 (fun a ha => ?_) (s.le.trans h2) h3⟩
  · obtain ⟨⟨o, ho⟩, hn, hg⟩ := hP a ha
    exact ⟨⟨o, s.frame a o ho hn⟩, fun q => (s.own a q).elim hn (fun z => by rw [ho] at z; cases z), hg⟩
  · obtain ⟨⟨o, ho⟩, hn, _⟩ := hP a ha
    rw [h1 a ha, s.frame a o ho hn, ho]
/-- whence what is walked may come -/
def From (ρ : En) (σ : L2.St) (H Z' : Hp) (a : Addr) : Prop := (H a = none ∨ OwnA ρ σ a) ∨ (∃ o, Z' a = some o) ∨ BorA ρ σ a
theorem bor_back {ρ ρ1 : En} {σ : L2.St} {H H1 Z Z1 : Hp} (s : Step ρ σ H Z ρ1 σ H1 Z1) {a : Addr} (h : BorA ρ1 σ a) : BorA ρ σ a := by
  obtain ⟨j, d, h1, h2⟩ := h
  exact ⟨j, d, (s.bor j d h1).1, h2⟩
theorem From.base {ρ ρ1 : En} {σ : L2.St} {H H1 Z Z1 Z' : Hp} (s : Step ρ σ H Z ρ1 σ H1 Z1) {a : Addr} (h : From ρ1 σ H1 Z' a) : From ρ σ H Z' a :=
  h.elim (fun q => .inl (own_base s q)) fun q => q.elim (fun z => .inr (.inl z)) fun z => .inr (.inr (bor_back s z))
def kI (T : Tx) (σ : L2.St) : Kd (List D) It := ⟨fun T' ρ σ1 H ρ' H' Z' J ds => Src T (From ρ σ1 H Z') ρ' σ H' Z' J ds, fun s h => by
  obtain ⟨P, hP, hs⟩ := h
  exact ⟨P, fun a ha => ⟨(hP a ha).1, (hP a ha).2.1, (hP a ha).2.2.base s.step⟩, hs⟩⟩
/-- what a for walks -/
structure SI (X : Cx) (tg iter : Expr) (c : Mn (List D)) : Prop where
  run : ∀ W, Takes X W → PI X tg iter (fun σ H R => tK (kI (tx X) σ) (tx X) W c σ H R)
theorem step_grow {ρ : En} {σ : L2.St} {H H' Z Z' : Hp} (h1 : Le H H') (h2 : Le Z Z') (h3 : ∀ a o, Z' a = some o → Z a = some o ∨ H a = none) : Step ρ σ H Z ρ σ H' Z' :=
  ⟨fun a o e _ => h1 a o e, h2, fun a o e => (h3 a o e).elim .inl fun z => .inr (.inl z), fun a h => .inl h, fun a ⟨o, e⟩ => ⟨o, h1 a o e⟩, fun j d h => ⟨h, rfl⟩, fun _ d h o => ⟨⟨d, h, o⟩, rfl⟩⟩
theorem SOk.growN {T : Tx} {ρ : En} {σ : L2.St} {H H' Z Z' : Hp} (S : SOk T ρ σ H Z) (h1 : Le H H') (h2 : Le Z Z') (h3 : Le Z' H') (h4 : ∀ a o, Z' a = some o → Z a = some o ∨ H a = none) : SOk T ρ σ H' Z' :=
  S.slots h3 h1 h2 fun a ha => by
    obtain ⟨z, o, ho⟩ := S.own ha
    cases e : Z' a with
    | none => rfl
    | some u =>
      rcases h4 a u e with q | q
      · rw [z] at q; cases q
      · rw [ho] at q; cases q
theorem drop_cons {ds : List D} {i : Nat} {d : D} (h : ds[i]? = some d) : ds.drop i = d :: ds.drop (i + 1) := by
  have hi : i < ds.length := by
    rcases Nat.lt_or_ge i ds.length with q | q
    · exact q
    · rw [List.getElem?_eq_none q] at h; cases h
  rw [List.drop_eq_getElem_cons hi]
  rw [List.getElem?_eq_getElem hi] at h
  rw [Option.some.inj h]
theorem for_ok {W : WX} {t : Tg} {ds : List D} {J : It} {ρ : En} {σ : L2.St} {H Z : Hp} {Dn : Ends} (S : SOk (tx X) ρ σ H Z) {G : Addr → Prop} (hs : Src (tx X) G ρ σ H Z J ds) (p : PoS (tx X) ρ σ H Z (forL t m ds ρ) W Dn) :
    ∃ Wi : Nat → Nat → L2.St → Hp → Prop, (∃ n, Wi 0 n σ H) ∧ ∀ i n σ H, Wi i n σ H →
      (J.stop i H ∧ Dn.nx σ H) ∨ (J.go i H ∧ ∃ N : L2.St → Hp → Prop, (∀ σ' H', N σ' H' → ∃ m', m' < n ∧ Wi (i + 1) m' σ' H') ∧ ∀ x H', J.yld i H x H' → tG (tx X) W t x σ H' fun σ2 H2 => tS (tx X) W m { Dn with nx := N, ct := N, bk := Dn.nx } σ2 H2) := by
  refine ⟨fun i n σ H => n = ds.length - i ∧ i ≤ ds.length ∧ ∃ ρ Z, SOk (tx X) ρ σ H Z ∧ Src (tx X) G ρ σ H Z J ds ∧ PoS (tx X) ρ σ H Z (forL t m (ds.drop i) ρ) W Dn, ⟨_, rfl, Nat.zero_le _, ρ, Z, S, hs, by rw [List.drop_zero]; exact p⟩, ?_⟩
  rintro i n σ H ⟨rfl, hi, ρ, Z, S, hs, p⟩
  obtain ⟨P, hP, src⟩ := id hs
  obtain ⟨hstop, hgo⟩ := src H Z (fun _ _ => rfl) (.refl _) S.sub
  rcases Nat.lt_or_ge i ds.length with hlt | hge
  · have hd : ds[i]? = some ds[i] := List.getElem?_eq_getElem hlt
    obtain ⟨g, y⟩ := hgo i _ hd
    refine .inr ⟨g, fun σ' H' => ds.length - (i + 1) = ds.length - (i + 1) ∧ i + 1 ≤ ds.length ∧ ∃ ρ Z, SOk (tx X) ρ σ' H' Z ∧ Src (tx X) G ρ σ' H' Z J ds ∧ PoS (tx X) ρ σ' H' Z (forL t m (ds.drop (i + 1)) ρ) W Dn, fun σ' H' h => ⟨_, by omega, h⟩, fun x H' yx => ?_⟩
    obtain ⟨l1, Z2, l2, l3, l4, r⟩ := y x H' yx
    have S2 := S.growN l1 l2 l3 l4
    have E2 : Step ρ σ H Z ρ σ H' Z2 := step_grow l1 l2 l4
    rw [drop_cons hd] at p
    have p2 := p.later E2
    unfold forL at p2
    refine ⟨ρ, Z2, ds[i], S2, r, PoS.bndN p2 fun ρ3 σ3 H3 Z3 S3 E3 p3 => ⟨ρ3, Z3, S3, ?_⟩⟩
    have hs3 := (hs.later E2).later E3
    cases q : m ρ3 with
    | stuck => rw [q] at p3; exact p3
    | exc x ρ' => rw [q] at p3; exact p3
    | ok f ρ' =>
      rw [q] at p3
      cases f with
      | ret r => exact p3
      | brk => exact p3
      | nx => exact fun σ' H' Z' S' E' => ⟨rfl, hlt, ρ', Z', S', hs3.later E', PoS.later p3 E'⟩
      | cnt => exact fun σ' H' Z' S' E' => ⟨rfl, hlt, ρ', Z', S', hs3.later E', PoS.later p3 E'⟩
  · have e : i = ds.length := by omega
    subst e
    rw [List.drop_length] at p
    exact .inl ⟨hstop, p σ H Z S (.refl _ _ _ _)⟩
theorem ss_for {tg iter : Expr} {t : Tg} {ci : Mn (List D)} (hp : PassesOwn (model X.prog X.w) X.A X.env X.xe) (hc : X.calm = true) (hi : SI X tg iter ci) (hg : SG X tg t) (hb : SSs X body m)
    (hs : ∀ x, foldedSetIterable iter X.env x = pure x := by intro _; rfl) : SS X (.For tg iter body [] pos) (cFor ci t m) :=
  ⟨fun W tk => psI (ps_for hp hc (hi.run W tk) (hg.run W tk) (hb.run W tk) hs) (tS_of fun ρ σ H Z Dn S p => ⟨ρ, Z, S, p.bnd (k := kI (tx X) σ) fun ds J ρ1 H1 Z1 S1 E1 o1 p1 => for_ok S1 o1 p1⟩)⟩

/-! while -/
theorem ss_while (hp : PassesOwn (model X.prog X.w) X.A X.env X.xe) (hc : STt X e ta) (hb : SSs X body m) : SS X (.While e body [] pos) (cWhile ta m) :=
  ⟨fun W tk => psI (ps_while hp (hc.run W tk) (hb.run W tk)) (tS_of fun ρ σ H Z Dn S p => by
    unfold cWhile at p
    split at p
    · rename_i hx
      refine ⟨fun n σ H => ∃ ρ Z, SOk (tx X) ρ σ H Z ∧ PoS (tx X) ρ σ H Z (whileN ta m n ρ) W Dn, ⟨_, ρ, Z, S, p⟩, ?_⟩
      rintro n σ H ⟨ρ, Z, S, p⟩
      cases n with
      | zero => exact p.elim
      | succ n =>
        unfold whileN at p
        refine ⟨ρ, Z, S, p.bnd (k := kB) fun kb b ρ1 H1 Z1 S1 E1 o1 p1 => ?_⟩
        cases o1
        cases kb with
        | false => exact p1 σ H1 Z1 S1 (.refl _ _ _ _)
        | true =>
          refine ⟨fun σ' H' => ∃ ρ Z, SOk (tx X) ρ σ' H' Z ∧ PoS (tx X) ρ σ' H' Z (whileN ta m n ρ) W Dn, fun σ' H' h => ⟨n, Nat.lt_succ_self n, h⟩, ρ1, Z1, S1, ?_⟩
          simp only [if_true] at p1
          cases q : m ρ1 with
          | stuck => rw [q] at p1; exact p1
          | exc x ρ' => rw [q] at p1; exact p1
          | ok f ρ' =>
            rw [q] at p1
            cases f with
            | ret r => exact p1
            | brk => exact p1
            | nx => exact fun σ' H' Z' S' E' => ⟨ρ', Z', S', PoS.later p1 E'⟩
            | cnt => exact fun σ' H' Z' S' E' => ⟨ρ', Z', S', PoS.later p1 E'⟩
    · exact p.elim)⟩
end
end CI
end
section
set_option maxRecDepth 100000
/-! CIIter: what is walked; a slot borrowed meanwhile. -/
namespace CI
open PySem L2 PyProof.Rows
section
variable {T : Tx} {ρ ρ' : En} {σ σ' : L2.St} {H H' Z Z' : Hp} {j : Nat} {d : D} {a : Addr}
theorem SOk.lock (S : SOk T ρ σ H Z) (h : ρ[j]? = some (.own d)) : SOk T (ρ.set j (.bor d)) σ H Z := by
  obtain ⟨a, ea, r, z⟩ := S.slot j _ h
  refine ⟨by rw [List.length_set]; exact S.len, S.sub, fun i s hi => ?_, fun i k d1 d2 b h1 h2 => ?_, fun b hb hc => ?_⟩
  · rcases set_get hi with ⟨rfl, rfl⟩ | ⟨_, hi⟩
    · exact ⟨a, ea, r⟩
    · exact S.slot i s hi
  · rcases set_get h1 with ⟨_, e⟩ | ⟨_, h1⟩
    · cases e
    · rcases set_get h2 with ⟨_, e⟩ | ⟨_, h2⟩
      · cases e
      · exact S.inj i k d1 d2 b h1 h2
  · obtain ⟨i, d1, h1, h2⟩ := hb
    rcases set_get h1 with ⟨_, e⟩ | ⟨n1, h1⟩
    · cases e
    · obtain ⟨k, d2, g1, g2⟩ := hc
      rcases set_get g1 with ⟨rfl, e⟩ | ⟨n2, g1⟩
      · exact n1 (S.inj _ _ _ _ b h h1 g2 h2)
      · exact S.sep b ⟨i, d1, h1, h2⟩ ⟨k, d2, g1, g2⟩
theorem lock_own (h : ρ[j]? = some (.own d)) {b : Addr} (hb : OwnA (ρ.set j (.bor d)) σ b) : OwnA ρ σ b := hb.set_out fun _ z => by cases z
theorem lock_a (S : SOk T ρ σ H Z) (h : ρ[j]? = some (.own d)) (ha : σ[j]? = some (some (.ref a))) (hb : OwnA (ρ.set j (.bor d)) σ a) : False := by
  obtain ⟨i, d1, h1, h2⟩ := hb
  rcases set_get h1 with ⟨_, e⟩ | ⟨n1, h1⟩
  · cases e
  · exact n1 (S.inj _ _ _ _ a h h1 ha h2)
theorem unlock_step (S : SOk T ρ σ H Z) (h : ρ[j]? = some (.own d)) (hno : ¬ isObj d = true) (S' : SOk T ρ' σ' H' Z') (E : Step (ρ.set j (.bor d)) σ H Z ρ' σ' H' Z') :
    SOk T (unbor j ρ') σ' H' Z' ∧ Step ρ σ H Z (unbor j ρ') σ' H' Z' ∧ ∀ b, OwnA (unbor j ρ') σ' b → OwnA ρ' σ' b ∨ (BorA ρ' σ' b ∧ OwnA ρ σ b) := by
  obtain ⟨a, ea, r, z⟩ := S.slot j _ h
  obtain ⟨oa, hoa⟩ := r.there
  -- nothing own stands at a
  have noa : ¬ OwnA ρ' σ' a := fun q => (E.own a q).elim (lock_a S h ea) fun w => by rw [hoa] at w; cases w
  have base : ∀ b, OwnA ρ' σ' b → OwnA ρ σ b ∨ H b = none := fun b q => (E.own b q).elim (fun w => .inl (lock_own h w)) .inr
  have core : Step ρ σ H Z ρ' σ' H' Z' ∨ True := .inr trivial
  have fr : ∀ b o, H b = some o → ¬ OwnA ρ σ b → H' b = some o := fun b o e n => E.frame b o e fun q => n (lock_own h q)
  have gr : ∀ b o, Z' b = some o → Z b = some o ∨ H b = none ∨ OwnA ρ σ b := fun b o e => (E.grow b o e).elim .inl fun q => q.elim (fun w => .inr (.inl w)) fun w => .inr (.inr (lock_own h w))
  have obj1 : ∀ (i : Nat) (d1 : D), ρ'[i]? = some (.own d1) → isObj d1 = true → (∃ d0, ρ[i]? = some (.own d0) ∧ isObj d0 = true) ∧ σ'[i]? = σ[i]? := fun i d1 hi ob => by
    obtain ⟨⟨d0, g1, g2⟩, g3⟩ := E.obj i d1 hi ob
    rcases set_get g1 with ⟨_, e⟩ | ⟨_, g1⟩
    · cases e
    · exact ⟨⟨d0, g1, g2⟩, g3⟩
  unfold unbor
  cases q : ρ'[j]? with
  | none =>
    refine ⟨S', ⟨fr, E.le, gr, base, E.kept, fun i d1 hi => ?_, obj1⟩, fun b hb => .inl hb⟩
    obtain ⟨g1, g2⟩ := E.bor i d1 hi
    rcases set_get g1 with ⟨rfl, _⟩ | ⟨_, g1⟩
    · rw [q] at hi; cases hi
    · exact ⟨g1, g2⟩
  | some s =>
    cases s with
    | bor d' =>
      obtain ⟨g1, g2⟩ := E.bor j d' q
      have hj : j < ρ.length := by
        rcases Nat.lt_or_ge j ρ.length with w | w
        · exact w
        · rw [List.getElem?_eq_none w] at h; cases h
      rw [List.getElem?_set_self hj] at g1
      obtain rfl : d = d' := by have := Option.some.inj g1; cases this; rfl
      rw [ea] at g2
      obtain ⟨b, eb, rb⟩ := S'.slot j _ q
      rw [g2] at eb; cases eb
      have za : Z' a = none := by
        cases w : Z' a with
        | none => rfl
        | some o =>
          rcases E.grow a o w with w | w | w
          · rw [z] at w; cases w
          · rw [hoa] at w; cases w
          · exact (lock_a S h ea w).elim
      have uo : ∀ b, OwnA (ρ'.set j (.own d)) σ' b → b = a ∨ OwnA ρ' σ' b := fun b ⟨i, d1, h1, h2⟩ => by
        rcases set_get h1 with ⟨rfl, _⟩ | ⟨_, h1⟩
        · rw [g2] at h2; cases h2; exact .inl rfl
        · exact .inr ⟨i, d1, h1, h2⟩
      have ub : ∀ b, BorA (ρ'.set j (.own d)) σ' b → ∃ i, i ≠ j ∧ ∃ d1, ρ'[i]? = some (.bor d1) ∧ σ'[i]? = some (some (.ref b)) := fun b ⟨i, d1, h1, h2⟩ => by
        rcases set_get h1 with ⟨_, e⟩ | ⟨n, h1⟩
        · cases e
        · exact ⟨i, fun z => n z.symm, d1, h1, h2⟩
      refine ⟨⟨by rw [List.length_set]; exact S'.len, S'.sub, fun i s hi => ?_, fun i k d1 d2 b h1 h2 h3 h4 => ?_, fun b hb hc => ?_⟩, ⟨fr, E.le, gr, fun b hb => ?_, E.kept, fun i d1 hi => ?_, fun i d1 hi ob => ?_⟩, fun b hb => ?_⟩
      · rcases set_get hi with ⟨rfl, rfl⟩ | ⟨_, hi⟩
        · exact ⟨a, g2, rb, za⟩
        · exact S'.slot i s hi
      · rcases set_get h1 with ⟨rfl, _⟩ | ⟨n1, h1⟩
        · rcases set_get h2 with ⟨e, _⟩ | ⟨n2, h2⟩
          · exact e
          · rw [g2] at h3; cases h3
            exact absurd ⟨k, d2, h2, h4⟩ noa
        · rcases set_get h2 with ⟨rfl, _⟩ | ⟨n2, h2⟩
          · rw [g2] at h4; cases h4
            exact absurd ⟨i, d1, h1, h3⟩ noa
          · exact S'.inj i k d1 d2 b h1 h2 h3 h4
      · obtain ⟨i, hij, d1, k1, k2⟩ := ub b hc
        rcases uo b hb with rfl | hb
        · obtain ⟨m1, m2⟩ := E.bor i d1 k1
          rcases set_get m1 with ⟨e, _⟩ | ⟨_, m1⟩
          · exact hij e.symm
          · exact S.sep b ⟨j, d, h, ea⟩ ⟨i, d1, m1, by rw [← m2]; exact k2⟩
        · exact S'.sep b hb ⟨i, d1, k1, k2⟩
      · rcases uo b hb with rfl | hb
        · exact .inl ⟨j, d, h, ea⟩
        · exact base b hb
      · rcases set_get hi with ⟨_, e⟩ | ⟨n, hi⟩
        · cases e
        · obtain ⟨m1, m2⟩ := E.bor i d1 hi
          rcases set_get m1 with ⟨e, _⟩ | ⟨_, m1⟩
          · exact absurd e n
          · exact ⟨m1, m2⟩
      · rcases set_get hi with ⟨_, e⟩ | ⟨n, hi⟩
        · cases e; exact absurd ob hno
        · exact obj1 i d1 hi ob
      · rcases uo b hb with rfl | hb
        · exact .inr ⟨⟨j, d, q, g2⟩, ⟨j, d, h, ea⟩⟩
        · exact .inl hb
    | _ =>
      refine ⟨S', ⟨fr, E.le, gr, base, E.kept, fun i d1 hi => ?_, obj1⟩, fun b hb => .inl hb⟩
      obtain ⟨g1, g2⟩ := E.bor i d1 hi
      rcases set_get g1 with ⟨rfl, _⟩ | ⟨_, g1⟩
      · rw [q] at hi; cases hi
      · exact ⟨g1, g2⟩
theorem bor_unbor {b : Addr} (h : BorA (unbor j ρ') σ' b) : BorA ρ' σ' b := by
  unfold unbor at h
  cases q : ρ'[j]? with
  | none => rw [q] at h; exact h
  | some s =>
    rw [q] at h
    cases s with
    | bor d => exact h.set_out fun _ z => by cases z
    | _ => exact h
theorem unbor_len : (unbor j ρ').length = ρ'.length := by
  unfold unbor
  split
  · rw [List.length_set]
  · rfl
end
section
variable {X : Cx} {e : Expr} {st : Stmt} {c : Mn Rv} {m : Mn Fl} {j : Nat}
theorem lockE {T : Tx} {ρ : En} {σ : L2.St} {H Z : Hp} {W : WX} {Q : VK} (S : SOk T ρ σ H Z) (p : Po kE T ρ σ H Z (cLock j c ρ) W Q) : ∃ ρ', SOk T ρ' σ H Z ∧ Po kE T ρ' σ H Z (c ρ') W Q := by
  unfold cLock at p
  cases q : ρ[j]? with
  | none => rw [q] at p; exact ⟨ρ, S, p⟩
  | some s =>
    cases s with
    | own d =>
      rw [q] at p
      simp only at p
      by_cases hno : isObj d = true
      · rw [if_pos hno] at p; exact ⟨ρ, S, p⟩
      rw [if_neg hno] at p
      refine ⟨_, S.lock q, ?_⟩
      cases o : c (ρ.set j (.bor d)) with
      | stuck => rw [o] at p; exact p
      | exc x ρ' =>
        rw [o] at p
        intro cls dd H' Z' S' E' x'
        obtain ⟨U1, U2, U3⟩ := unlock_step S q hno S' E'.step
        exact p cls dd H' Z' U1 ⟨U2, E'.same, by rw [unbor_len]; exact E'.len.trans (by rw [List.length_set]), fun b hb => (U3 b hb).elim (fun w => lock_own q (E'.ownE b w)) fun w => w.2⟩ x'
      | ok r ρ' =>
        rw [o] at p
        intro v H' Z' S' E' x'
        obtain ⟨U1, U2, U3⟩ := unlock_step S q hno S' E'.step
        refine p v H' Z' U1 ⟨U2, E'.same, by rw [unbor_len]; exact E'.len.trans (by rw [List.length_set]), fun b hb => (U3 b hb).elim (fun w => lock_own q (E'.ownE b w)) fun w => w.2⟩ ?_
        cases r with
        | val d => exact x'
        | bor d => exact x'
        | own d2 =>
          obtain ⟨a, e, r, z, n, n1, n2, n3⟩ := x'
          exact ⟨a, e, r, z, n.elim .inl fun w => .inr (lock_own q w), fun w => (U3 a w).elim n1 fun w => n2 w.1, fun w => n2 (bor_unbor w), n3⟩
    | _ => rw [q] at p; exact ⟨ρ, S, p⟩
theorem se_lock (h : SE X e c) : SE X e (cLock j c) := ⟨fun W tk => peI (h.run W tk) fun σ H Q ⟨ρ, Z, S, p⟩ => by
  obtain ⟨ρ', S', p'⟩ := lockE S p
  exact ⟨ρ', Z, S', p'⟩⟩
theorem lockS {T : Tx} {ρ : En} {σ : L2.St} {H Z : Hp} {W : WX} {Dn : Ends} (S : SOk T ρ σ H Z) (p : PoS T ρ σ H Z (cLock j m ρ) W Dn) : ∃ ρ', SOk T ρ' σ H Z ∧ PoS T ρ' σ H Z (m ρ') W Dn := by
  unfold cLock at p
  cases q : ρ[j]? with
  | none => rw [q] at p; exact ⟨ρ, S, p⟩
  | some s =>
    cases s with
    | own d =>
      rw [q] at p
      simp only at p
      by_cases hno : isObj d = true
      · rw [if_pos hno] at p; exact ⟨ρ, S, p⟩
      rw [if_neg hno] at p
      refine ⟨_, S.lock q, ?_⟩
      cases o : m (ρ.set j (.bor d)) with
      | stuck => rw [o] at p; exact p
      | exc x ρ' =>
        rw [o] at p
        intro cls dd σ' H' Z' S' E' x'
        obtain ⟨U1, U2, U3⟩ := unlock_step S q hno S' E'
        exact p cls dd σ' H' Z' U1 U2 x'
      | ok f ρ' =>
        rw [o] at p
        cases f with
        | nx =>
          intro σ' H' Z' S' E'
          obtain ⟨U1, U2, U3⟩ := unlock_step S q hno S' E'
          exact p σ' H' Z' U1 U2
        | brk =>
          intro σ' H' Z' S' E'
          obtain ⟨U1, U2, U3⟩ := unlock_step S q hno S' E'
          exact p σ' H' Z' U1 U2
        | cnt =>
          intro σ' H' Z' S' E'
          obtain ⟨U1, U2, U3⟩ := unlock_step S q hno S' E'
          exact p σ' H' Z' U1 U2
        | ret r =>
          intro v σ' H' Z' S' E' x'
          obtain ⟨U1, U2, U3⟩ := unlock_step S q hno S' E'
          refine p v σ' H' Z' U1 U2 ?_
          cases r with
          | val d => exact x'
          | bor d => exact x'
          | own d2 =>
            obtain ⟨a, e, r, z, n, n3⟩ := x'
            exact ⟨a, e, r, z, n.elim .inl (fun w => .inr (lock_own q w)), n3⟩
    | _ => rw [q] at p; exact ⟨ρ, S, p⟩
theorem ss_lock (h : SS X st m) : SS X st (cLock j m) := ⟨fun W tk => psI (h.run W tk) fun Dn σ H ⟨ρ, Z, S, p⟩ => by
  obtain ⟨ρ', S', p'⟩ := lockS S p
  exact ⟨ρ', Z, S', p'⟩⟩

/-! what is walked -/
theorem piI {tg iter : Expr} {t u : TI} (h : PI X tg iter t) (k : ∀ σ H R, u σ H R → t σ H R) : PI X tg iter u := ⟨fun pins s σ H R I q => h.run pins s σ H R I (k σ H R q)⟩
theorem PI.or {tg iter : Expr} {t u : TI} (h : PI X tg iter t) (h' : PI X tg iter u) : PI X tg iter (fun σ H R => t σ H R ∨ u σ H R) := ⟨fun pins s σ H R I q => q.elim (h.run pins s σ H R I) (h'.run pins s σ H R I)⟩
theorem src_lst {T : Tx} {ρ : En} {σ : L2.St} {H Z : Hp} {a : Addr} {vs : List V} {ds : List D} (hr : Rd H a (.lst vs)) (r : Reps T Z ds vs) (hn : ¬ OwnA ρ σ a) {G : Addr → Prop} (hg : G a) : Src T G ρ σ H Z (Itl T.K a) ds := by
  refine ⟨[a], fun b hb => ?_, fun H1 Z1 h1 h2 h3 => ?_⟩
  · obtain rfl : b = a := by simpa using hb
    exact ⟨hr.elim (fun e => ⟨_, e⟩) fun ⟨_, e⟩ => ⟨_, e⟩, hn, hg⟩
  · have e := h1 a (by simp)
    have hr1 : SqL T.K H1 a vs := .inl (hr.elim (fun q => .inl (e.trans q)) fun ⟨o, q⟩ => .inr ⟨o, e.trans q⟩)
    refine ⟨⟨vs, hr1, by rw [r.length]; exact Nat.le_refl _⟩, fun i d hd => ?_⟩
    obtain ⟨v, hv, rv⟩ := r.get hd
    refine ⟨⟨vs, v, hr1, hv⟩, fun x H2 ⟨e2, hx⟩ => ?_⟩
    subst e2
    have := hx vs hr1
    rw [hv] at this; cases this
    exact ⟨.refl _, Z1, .refl _, h3, fun _ _ q => .inl q, rv.mono h2⟩
theorem src_tup {T : Tx} {ρ : En} {σ : L2.St} {H Z : Hp} {a : Addr} {vs : List V} {ds : List D} (S : SOk T ρ σ H Z) (hr : SqT T.K Z a vs) (r : Reps T Z ds vs) {G : Addr → Prop} : Src T G ρ σ H Z (Itt T.K a) ds := by
  refine ⟨[], fun b hb => by simp at hb, fun H1 Z1 h1 h2 h3 => ?_⟩
  have hr1 : SqT T.K H1 a vs := h3.sqT (h2.sqT hr)
  refine ⟨⟨vs, hr1, by rw [r.length]; exact Nat.le_refl _⟩, fun i d hd => ?_⟩
  obtain ⟨v, hv, rv⟩ := r.get hd
  refine ⟨⟨vs, v, hr1, hv⟩, fun x H2 ⟨e2, hx⟩ => ?_⟩
  subst e2
  have := hx vs hr1
  rw [hv] at this; cases this
  exact ⟨.refl _, Z1, .refl _, h3, fun _ _ q => .inl q, rv.mono h2⟩
theorem src_rg {T : Tx} {ρ : En} {σ : L2.St} {H Z : Hp} {lo : Int} {n : Nat} {G : Addr → Prop} : Src T G ρ σ H Z (Itr lo n) (rgD lo n) := by
  refine ⟨[], fun b hb => by simp at hb, fun H1 Z1 h1 h2 h3 => ⟨by show n ≤ _; simp [rgD], fun i d hd => ?_⟩⟩
  have hi : i < n := by
    rcases Nat.lt_or_ge i n with w | w
    · exact w
    · rw [List.getElem?_eq_none (by simpa [rgD] using w)] at hd; cases hd
  have ed : d = .int (lo + i) := by
    have h2 : (rgD lo n)[i]? = some (.int (lo + i)) := by simp [rgD, hi]
    rw [h2] at hd; exact (Option.some.inj hd).symm
  refine ⟨hi, fun x H2 ⟨e2, ex⟩ => ?_⟩
  subst e2
  exact ⟨.refl _, Z1, .refl _, h3, fun _ _ q => .inl q, by rw [ed]; exact ex⟩
/-- a frozen list stands at no own address -/
theorem rep_notOwn {T : Tx} {ρ : En} {σ : L2.St} {H Z : Hp} {a : Addr} {u : HO} (S : SOk T ρ σ H Z) (h : Rd Z a u) : ¬ OwnA ρ σ a := fun q => by
  have z := (S.own q).1
  rcases h with h | ⟨o, h⟩ <;> rw [z] at h <;> cases h
theorem rd_some {Z : Hp} {a : Addr} {u : HO} (h : Rd Z a u) : ∃ o, Z a = some o := h.elim (fun e => ⟨_, e⟩) fun ⟨_, e⟩ => ⟨_, e⟩
theorem si_seq {tg iter : Expr} (h : SE X iter c) (hl : ∀ {wi : TE}, PE X iter wi → PI X tg iter (iList X.K wi) := by intro _ h; exact pi_list h) (ht : ∀ {wi : TE}, PE X iter wi → PI X tg iter (iTup X.K wi) := by intro _ h; exact pi_tup h) : SI X tg iter (ciSeq c) :=
  ⟨fun W tk => piI (PI.or (hl (h.run W tk)) (ht (h.run W tk))) fun σ H R ⟨ρ, Z, S, p⟩ => by
    unfold ciSeq CI.bnd at p
    cases q : c ρ with
    | stuck => rw [q] at p; exact p.elim
    | exc x ρ' => rw [q] at p; exact .inl ⟨ρ, Z, S, by rw [q]; exact p⟩
    | ok r ρ' =>
      rw [q] at p
      cases hs : seqR r with
      | none => simp only [hs] at p; exact p.elim
      | some ds =>
        simp only [hs] at p
        cases r with
        | bor d => cases hs
        | val d =>
          cases d with
          | lst xs =>
            cases hs
            refine .inl ⟨ρ, Z, S, ?_⟩
            rw [q]
            intro v H' Z' S' E' o'
            obtain ⟨a, vs, rfl, r1, r2⟩ := o'
            exact ⟨a, rfl, ⟨vs, .inl (S'.sub.rd r1)⟩, p _ H' Z' S' E' (src_lst (S'.sub.rd r1) r2 (rep_notOwn S' r1) (.inr (.inl (rd_some r1))))⟩
          | tup xs =>
            cases hs
            refine .inr ⟨ρ, Z, S, ?_⟩
            rw [q]
            intro v H' Z' S' E' o'
            obtain ⟨a, vs, rfl, r1, r2⟩ := o'
            exact ⟨a, rfl, ⟨vs, S'.sub.sqT r1⟩, p _ H' Z' S' E' (src_tup S' r1 r2)⟩
          | _ => cases hs
        | own d =>
          cases d with
          | lst xs =>
            cases hs
            refine .inl ⟨ρ, Z, S, ?_⟩
            rw [q]
            intro v H' Z' S' E' o'
            obtain ⟨a, rfl, ⟨vs, r1, r2⟩, z, n, n1, n2, _⟩ := o'
            exact ⟨a, rfl, ⟨vs, .of r1⟩, p _ H' Z' S' E' (src_lst (.inl r1) r2 n1 (.inl n))⟩
          | tup xs =>
            cases hs
            refine .inr ⟨ρ, Z, S, ?_⟩
            rw [q]
            intro v H' Z' S' E' o'
            obtain ⟨a, rfl, z, _⟩ := o'
            exact z.elim
          | _ => cases hs⟩
theorem si_var {tg : Expr} {i : Nat} {x : Str} {pos : Pos} (hN : X.N[i]? = some x) (hv : Vis X.env.scope x) (hd : (x == ("__debug__" : Str)) = false := by decide) (hcd : (x == ("__classdict__" : Str)) = false := by decide) : SI X tg (.Name x pos) (ciVar i) :=
  ⟨fun W tk => piI (PI.or (pi_list (pe_var hN hv hd hcd)) (pi_tup (pe_var hN hv hd hcd))) fun σ H R ⟨ρ, Z, S, p⟩ => by
    unfold ciVar at p
    cases q : ρ[i]? with
    | none => rw [q] at p; exact p.elim
    | some s =>
      have z := S.slot i s q
      rw [q] at p
      cases s with
      | emp => exact p.elim
      | exn _ => exact p.elim
      | own _ => exact p.elim
      | val d =>
        obtain ⟨v, ev, r⟩ := z
        cases d with
        | lst xs =>
          obtain ⟨a, vs, rfl, r1, r2⟩ := r
          exact .inl ⟨_, ev, a, rfl, ⟨vs, .inl (S.sub.rd r1)⟩, p _ H Z S (.refl _ _ _ _) (src_lst (S.sub.rd r1) r2 (rep_notOwn S r1) (.inr (.inl (rd_some r1))))⟩
        | tup xs =>
          obtain ⟨a, vs, rfl, r1, r2⟩ := r
          exact .inr ⟨_, ev, a, rfl, ⟨vs, S.sub.sqT r1⟩, p _ H Z S (.refl _ _ _ _) (src_tup S r1 r2)⟩
        | _ => exact p.elim
      | bor d =>
        obtain ⟨a, ev, r⟩ := z
        cases d with
        | lst xs =>
          obtain ⟨vs, r1, r2⟩ := r
          exact .inl ⟨_, ev, a, rfl, ⟨vs, .of r1⟩, p _ H Z S (.refl _ _ _ _) (src_lst (.inl r1) r2 (fun w => S.sep a w ⟨i, _, q, ev⟩) (.inr (.inr ⟨i, _, q, ev⟩)))⟩
        | tup xs => exact r.elim
        | _ => exact p.elim⟩
theorem arg_rd {T : Tx} {H Z : Hp} {v : V} {r : Rv} (h : ArgOk T H Z v r) : RdOk T H Z v r.d := by
  cases r with
  | val d => exact .inl h
  | own d => exact h.elim
  | bor d => obtain ⟨a, e, r⟩ := h; exact .inr ⟨a, e, r⟩
theorem si_rg1 {tg a : Expr} {p pos : Pos} (hg : Gl X "range") (hm : X.mg "range" = none) (ha : SE X a c) (hs : starEach [a] X.env = (false, eval a X.env) :: starEach [] X.env := by rfl)
    (hh : ∀ {t : TA}, X.mg "range" = none → PA X [a] t → PI X tg (.Call (.Name "range" p) [a] [] pos) (iRng1 t) := by intro _ hm h; exact pi_range1 rfl hm h) : SI X tg (.Call (.Name "range" p) [a] [] pos) (ciRg1 c) :=
  ⟨fun W tk => piI (hh hm ((sa_cons ha sa_nil hs).run W tk)) fun σ H R ⟨ρ, Z, S, p⟩ => ⟨ρ, Z, S, p.bnd (k1 := kA) fun rs vs ρ1 H1 Z1 S1 E1 o1 p1 => by
    match rs, vs, o1, p1 with
    | [r], [v], o1, p1 =>
      obtain ⟨ds, e, p2⟩ := Po.ofO p1
      have rd := arg_rd o1.1
      cases hd : r.d with
      | int n =>
        rw [hd] at e rd
        simp only [rg1] at e
        split at e
        · rename_i hr
          cases e
          simp only [inRg, Bool.and_eq_true, decide_eq_true_eq] at hr
          exact ⟨n, by rw [rd_int rd], hr.1, hr.2, p2 _ H1 Z1 S1 (.refl _ _ _ _) src_rg⟩
        · cases e
      | _ => rw [hd] at e; cases e
    | [], [], _, p1 => exact p1.elim
    | _ :: _ :: _, _, _, p1 => exact p1.elim⟩⟩
theorem si_rg2 {tg a b : Expr} {ca cb : Mn Rv} {p pos : Pos} (hg : Gl X "range") (hm : X.mg "range" = none) (ha : SE X a ca) (hb : SE X b cb) (hs : starEach [a, b] X.env = (false, eval a X.env) :: starEach [b] X.env := by rfl) (hs2 : starEach [b] X.env = (false, eval b X.env) :: starEach [] X.env := by rfl)
    (hh : ∀ {t : TA}, X.mg "range" = none → PA X [a, b] t → PI X tg (.Call (.Name "range" p) [a, b] [] pos) (iRng2 t) := by intro _ hm h; exact pi_range2 rfl hm h) : SI X tg (.Call (.Name "range" p) [a, b] [] pos) (ciRg2 ca cb) :=
  ⟨fun W tk => piI (hh hm ((sa_cons ha (sa_cons hb sa_nil hs2) hs).run W tk)) fun σ H R ⟨ρ, Z, S, p⟩ => ⟨ρ, Z, S, p.bnd (k1 := kA) fun rs vs ρ1 H1 Z1 S1 E1 o1 p1 => by
    match rs, vs, o1, p1 with
    | [r, q], [v, w], o1, p1 =>
      obtain ⟨ds, e, p2⟩ := Po.ofO p1
      have rd := arg_rd o1.1
      have rd2 := arg_rd o1.2.1
      cases hd : r.d with
      | int n =>
        cases hd2 : q.d with
        | int n2 =>
          rw [hd, hd2] at e
          rw [hd] at rd
          rw [hd2] at rd2
          simp only [rg2] at e
          split at e
          · rename_i hr
            cases e
            simp only [inRg, Bool.and_eq_true, decide_eq_true_eq] at hr
            exact ⟨n, n2, by rw [rd_int rd, rd_int rd2], ⟨hr.1.1, hr.1.2, hr.2.1, hr.2.2⟩, p2 _ H1 Z1 S1 (.refl _ _ _ _) src_rg⟩
          · cases e
        | _ => rw [hd, hd2] at e; cases e
      | _ => rw [hd] at e; cases e
    | [], [], _, p1 => exact p1.elim
    | [_], [_], _, p1 => exact p1.elim
    | _ :: _ :: _ :: _, _, _, p1 => exact p1.elim⟩⟩
end
end CI
end
section
set_option maxRecDepth 100000
/-! CIComp: list comprehensions. -/
namespace CI
open PySem L2 PyProof.Rows
/-! slots forgotten, put back -/
theorem wipe_get (σ : L2.St) (j : Nat) : ∀ vs : List Nat, (L2.wipe σ vs)[j]? = if j ∈ vs ∧ j < σ.length then some none else σ[j]?
  | [] => by simp [L2.wipe]
  | v :: vs => by
    unfold L2.wipe
    by_cases hv : v = j
    · subst hv
      by_cases hl : v < σ.length
      · rw [List.getElem?_set_self (by rw [L2.wipe_length]; exact hl)]; simp [hl]
      · rw [List.getElem?_eq_none (by rw [List.length_set, L2.wipe_length]; omega), if_neg (fun h => hl h.2), List.getElem?_eq_none (by omega)]
    · rw [List.getElem?_set_ne hv, wipe_get σ j vs]
      have hv' : j ≠ v := fun h => hv h.symm
      simp [hv']
theorem wipeE_len (ρ : En) : ∀ vs : List Nat, (wipeE ρ vs).length = ρ.length
  | [] => rfl
  | v :: vs => by unfold wipeE; rw [List.length_set, wipeE_len ρ vs]
theorem wipeE_get (ρ : En) (j : Nat) : ∀ vs : List Nat, (wipeE ρ vs)[j]? = if j ∈ vs ∧ j < ρ.length then some .emp else ρ[j]?
  | [] => by simp [wipeE]
  | v :: vs => by
    unfold wipeE
    by_cases hv : v = j
    · subst hv
      by_cases hl : v < ρ.length
      · rw [List.getElem?_set_self (by rw [wipeE_len]; exact hl)]; simp [hl]
      · rw [List.getElem?_eq_none (by rw [List.length_set, wipeE_len]; omega), if_neg (fun h => hl h.2), List.getElem?_eq_none (by omega)]
    · rw [List.getElem?_set_ne hv, wipeE_get ρ j vs]
      have hv' : j ≠ v := fun h => hv h.symm
      simp [hv']
theorem restE_len (ρ0 ρ : En) : ∀ vs : List Nat, (restE ρ0 ρ vs).length = ρ.length
  | [] => rfl
  | v :: vs => by
    unfold restE
    split
    · rw [List.length_set, restE_len ρ0 ρ vs]
    · exact restE_len ρ0 ρ vs
theorem restE_get (ρ0 ρ : En) (hl : ρ.length = ρ0.length) (j : Nat) : ∀ vs : List Nat, (restE ρ0 ρ vs)[j]? = if j ∈ vs then ρ0[j]? else ρ[j]?
  | [] => by simp [restE]
  | v :: vs => by
    unfold restE
    cases q : ρ0[v]? with
    | none =>
      simp only
      rw [restE_get ρ0 ρ hl j vs]
      by_cases hv : j = v
      · subst hv
        have h1 : ρ[j]? = none := by
          rw [List.getElem?_eq_none_iff] at q ⊢; omega
        simp [q, h1]
      · simp [hv]
    | some s =>
      simp only
      by_cases hv : v = j
      · subst hv
        have h1 : v < ρ.length := by
          rcases Nat.lt_or_ge v ρ0.length with w | w
          · omega
          · rw [List.getElem?_eq_none w] at q; cases q
        rw [List.getElem?_set_self (by rw [restE_len]; exact h1)]; simp [q]
      · rw [List.getElem?_set_ne hv, restE_get ρ0 ρ hl j vs]
        have hv' : j ≠ v := fun h => hv h.symm
        simp [hv']
theorem wipe_eq {σ σ' : L2.St} {vs : List Nat} (hl : σ'.length = σ.length) (h : ∀ j, j ∉ vs → σ'[j]? = σ[j]?) : L2.wipe σ' vs = L2.wipe σ vs := by
  apply List.ext_getElem?
  intro j
  rw [wipe_get, wipe_get, hl]
  by_cases hj : j ∈ vs
  · by_cases hlt : j < σ.length
    · simp [hj, hlt]
    · rw [if_neg (fun w => hlt w.2), if_neg (fun w => hlt w.2), List.getElem?_eq_none (by omega), List.getElem?_eq_none (by omega)]
  · simp [hj, h j hj]
theorem wipe_wipe (σ : L2.St) (vs : List Nat) : L2.wipe (L2.wipe σ vs) vs = L2.wipe σ vs := wipe_eq (L2.wipe_length σ vs) fun j hj => by rw [wipe_get]; simp [hj]
section
variable {T : Tx} {ρ ρ' : En} {σ σ' : L2.St} {H H' Z Z' : Hp} {vs : List Nat} {a : Addr}
theorem wipe_ownA (h : OwnA (wipeE ρ vs) (L2.wipe σ vs) a) : OwnA ρ σ a := by
  obtain ⟨j, d, h1, h2⟩ := h
  rw [wipeE_get] at h1
  split at h1
  · cases h1
  · rename_i hn
    rw [wipe_get] at h2
    split at h2
    · cases h2
    · exact ⟨j, d, h1, h2⟩
theorem wipe_borA (h : BorA (wipeE ρ vs) (L2.wipe σ vs) a) : BorA ρ σ a := by
  obtain ⟨j, d, h1, h2⟩ := h
  rw [wipeE_get] at h1
  split at h1
  · cases h1
  · rename_i hn
    rw [wipe_get] at h2
    split at h2
    · cases h2
    · exact ⟨j, d, h1, h2⟩
theorem SOk.wipe (S : SOk T ρ σ H Z) (vs : List Nat) : SOk T (wipeE ρ vs) (L2.wipe σ vs) H Z := by
  refine ⟨by rw [wipeE_len, L2.wipe_length]; exact S.len, S.sub, fun i s h => ?_, fun i j d d' b h1 h2 h3 h4 => ?_, fun b hb hc => S.sep b (wipe_ownA hb) (wipe_borA hc)⟩
  · rw [wipeE_get] at h
    split at h
    · cases h; trivial
    · rename_i hn
      rw [wipe_get, ← S.len, if_neg hn]
      exact S.slot i s h
  · rw [wipeE_get] at h1 h2
    split at h1
    · cases h1
    · split at h2
      · cases h2
      · rw [wipe_get] at h3 h4
        split at h3
        · cases h3
        · split at h4
          · cases h4
          · exact S.inj i j d d' b h1 h2 h3 h4
/-- an object that no slot holds and that is not frozen changes -/
theorem SOk.other (S : SOk T ρ σ H Z) {o : HO} (z : Z a = none) (n1 : ¬ OwnA ρ σ a) (n2 : ¬ BorA ρ σ a) : SOk T ρ σ (upd H a o) Z := by
  refine ⟨S.len, fun b u e => ?_, fun i s h => ?_, S.inj, S.sep⟩
  · have hb : b ≠ a := fun w => by rw [w, z] at e; cases e
    rw [upd_ne hb]; exact S.sub b u e
  · have q := S.slot i s h
    cases s with
    | emp => trivial
    | exn x => exact q
    | val d => exact q
    | own d =>
      obtain ⟨b, e, r, zb⟩ := q
      have hb : b ≠ a := fun w => n1 (w ▸ ⟨i, d, h, e⟩)
      exact ⟨b, e, r.mono (upd_ne hb) (.refl _), zb⟩
    | bor d =>
      obtain ⟨b, e, r⟩ := q
      have hb : b ≠ a := fun w => n2 (w ▸ ⟨i, d, h, e⟩)
      exact ⟨b, e, r.mono (upd_ne hb) (.refl _)⟩
end
/-! targets of names -/
mutual
def gTn (K : PySem.W.Frag) : Tn → TG
  | .nm i => gName i
  | .tup ts => gTup K ts.length (gTns K ts)
def gTns (K : PySem.W.Frag) : List Tn → TGs
  | [] => gNil
  | t :: ts => gCons (gTn K t) (gTns K ts)
end
theorem setTns_len : ∀ {ts : List Tn} {ds : List D} {ρ ρ' : En}, setTns ts ds ρ = some ρ' → ds.length = ts.length
  | [], [], _, _, _ => rfl
  | t :: ts, d :: ds, ρ, ρ', e => by
    unfold setTns at e
    cases e1 : setTn t d ρ with
    | none => rw [e1] at e; cases e
    | some ρ1 => rw [e1] at e; rw [List.length_cons, List.length_cons, setTns_len (ρ := ρ1) e]
  | [], _ :: _, _, _, e => by cases e
  | _ :: _, [], _, _, e => by cases e
/-- σ' is σ but at these slots -/
def But (σ σ' : L2.St) (ix : List Nat) : Prop := σ'.length = σ.length ∧ ∀ j, j ∉ ix → σ'[j]? = σ[j]?
mutual
theorem setTn_ok {T : Tx} : ∀ {t : Tn} {d : D} {ρ ρ' : En} {σ : L2.St} {H Z : Hp} {v : V} {Q : L2.St → Hp → Prop}, setTn t d ρ = some ρ' → SOk T ρ σ H Z → Rep T Z d v → (∀ σ', SOk T ρ' σ' H Z → Step ρ σ H Z ρ' σ' H Z → But σ σ' t.ix → (∀ a, OwnA ρ' σ' a → OwnA ρ σ a) → Q σ' H) → gTn T.K t v σ H Q
  | .nm i, d, ρ, ρ', σ, H, Z, v, Q, e, S, r, k => by
    cases e
    exact k _ (S.store (fun _ z => by cases z) ⟨v, rfl, r⟩ fun _ _ z => by cases z) (.store (T := T) (fun _ z => by cases z) fun _ z => by cases z) ⟨by rw [List.length_set], fun j hj => by rw [List.getElem?_set_ne]; intro h; exact hj (by subst h; simp [Tn.ix])⟩ fun a h => (own_set h).elim (fun ⟨_, z, _⟩ => by cases z) id
  | .tup ts, .tup ds, ρ, ρ', σ, H, Z, v, Q, e, S, ⟨a, vs, ev, q, r⟩, k => by
    have e' : setTns ts ds ρ = some ρ' := e
    exact ⟨a, vs, ev, S.sub.sqT q, by rw [← r.length]; exact setTns_len e', setTns_ok e' S r k⟩
  | .tup _, .non, _, _, _, _, _, _, _, e, _, _, _ => by cases e
  | .tup _, .bl _, _, _, _, _, _, _, _, e, _, _, _ => by cases e
  | .tup _, .int _, _, _, _, _, _, _, _, e, _, _, _ => by cases e
  | .tup _, .str _, _, _, _, _, _, _, _, e, _, _, _ => by cases e
  | .tup _, .lst _, _, _, _, _, _, _, _, e, _, _, _ => by cases e
  | .tup _, .dic _, _, _, _, _, _, _, _, e, _, _, _ => by cases e
  | .tup _, .obj _ _, _, _, _, _, _, _, _, e, _, _, _ => by cases e
  | .tup _, .glo _, _, _, _, _, _, _, _, e, _, _, _ => by cases e
theorem setTns_ok {T : Tx} : ∀ {ts : List Tn} {ds : List D} {ρ ρ' : En} {σ : L2.St} {H Z : Hp} {vs : List V} {Q : L2.St → Hp → Prop}, setTns ts ds ρ = some ρ' → SOk T ρ σ H Z → Reps T Z ds vs → (∀ σ', SOk T ρ' σ' H Z → Step ρ σ H Z ρ' σ' H Z → But σ σ' (Tn.ixs ts) → (∀ a, OwnA ρ' σ' a → OwnA ρ σ a) → Q σ' H) → gTns T.K ts vs σ H Q
  | [], [], ρ, ρ', σ, H, Z, vs, Q, e, S, r, k => by
    cases e
    exact ⟨r, k σ S (.refl _ _ _ _) ⟨rfl, fun _ _ => rfl⟩ fun _ h => h⟩
  | t :: ts, d :: ds, ρ, ρ', σ, H, Z, vs, Q, e, S, ⟨v, r, ev, q1, q2⟩, k => by
    unfold setTns at e
    cases e1 : setTn t d ρ with
    | none => rw [e1] at e; cases e
    | some ρ1 =>
      rw [e1] at e
      have e2 : setTns ts ds ρ1 = some ρ' := e
      exact ⟨v, r, ev, setTn_ok e1 S q1 fun σ1 S1 E1 b1 o1 => setTns_ok e2 S1 q2 fun σ2 S2 E2 b2 o2 => k σ2 S2 (E1.trans E2) ⟨b2.1.trans b1.1, fun j hj => by
        have hj' : j ∉ t.ix ∧ j ∉ Tn.ixs ts := by simpa [Tn.ixs] using hj
        exact (b2.2 j hj'.2).trans (b1.2 j hj'.1)⟩ fun a h => o1 a (o2 a h)⟩
  | [], _ :: _, _, _, _, _, _, _, _, e, _, _, _ => by cases e
  | _ :: _, [], _, _, _, _, _, _, _, e, _, _, _ => by cases e
end
structure SN (X : Cx) (e : Expr) (t : Tn) : Prop where
  run : PG X e (gTn X.K t)
structure SNs (X : Cx) (es : List Expr) (ts : List Tn) : Prop where
  run : PGs X es (gTns X.K ts)
structure SC (X : Cx) (ifs : List Expr) (c : Mn Bool) : Prop where
  run : ∀ W, Takes X W → PTs X ifs (tK kB (tx X) W c)
section
variable {X : Cx} {e : Expr} {c : Mn Rv} {ta : Mn Bool} {pos : Pos} {i : Nat} {x : Str}
theorem sn_nm (hN : X.N.Nodup) (hi : X.N[i]? = some x) (hx : Loc X.env.scope x) (hf : X.fn x = true ∨ X.env.scope.names.lookup x = some .local := by first | exact .inl rfl | exact .inr rfl | assumption) : SN X (.Name x pos) (.nm i) := ⟨pg_name hN hi hx hf⟩
theorem sns_nil : SNs X [] [] := ⟨pgs_nil⟩
theorem sns_cons {es : List Expr} {t : Tn} {ts : List Tn} (h1 : SN X e t) (h2 : SNs X es ts) (hs : (assignEach (e :: es) X.env).map (·.2) = assign e X.env :: (assignEach es X.env).map (·.2) := by rfl) : SNs X (e :: es) (t :: ts) := ⟨pgs_cons h1.run h2.run hs⟩
theorem sn_tup {es : List Expr} {k : Nat} {ts : List Tn} (hc : X.calm = true) (h : SNs X es ts) (hn : (assignEach es X.env).length = ts.length := by rfl) (hst : (assignEach es X.env).findIdx? (·.1) = none := by rfl) : SN X (.Tuple es k pos) (.tup ts) := ⟨pg_tup hc h.run hn hst⟩
theorem ptsI {ifs : List Expr} {t u : TT} (h : PTs X ifs t) (k : ∀ σ H Q, u σ H Q → t σ H Q) : PTs X ifs u := ⟨fun pins s σ H Q I q => h.run pins s σ H Q I (k σ H Q q)⟩
theorem sc_nil : SC X [] cYes := ⟨fun W tk => ptsI pts_nil (tE_of fun ρ σ H Z Q S p => Po.out (k := kB) p S rfl)⟩
theorem sc_one (h : STt X e ta) : SC X [e] ta := ⟨fun W tk => pts_one (h.run W tk)⟩
/-- no exception is wished for -/
abbrev WF : WX := fun _ _ _ _ => False
theorem okOwn_ok {ρ : En} {vs : List Nat} (h : okOwn ρ vs = true) {j : Nat} (hj : j ∈ vs) : (∀ d, ρ[j]? ≠ some (.own d)) ∧ ∀ d, ρ[j]? ≠ some (.bor d) := by
  have q := List.all_eq_true.mp h j hj
  constructor
  · intro d e; simp [e] at q
  · intro d e; simp [e] at q
/-- what holds between two turns: D the new list -/
structure LcInv (T : Tx) (ρ0 : En) (σ : L2.St) (vs : List Nat) (H1 Z1 : Hp) (Dp : Addr) (acc : List D) (ρ : En) (H Z : Hp) : Prop where
  S : SOk T ρ (L2.wipe σ vs) H Z
  new : H1 Dp = none
  vals : ∃ ws, H Dp = some (.lst ws) ∧ Reps T Z acc ws
  zD : Z Dp = none
  same : Le H1 H
  le : Le Z1 Z
  grow : ∀ a o, Z a = some o → Z1 a = some o ∨ H1 a = none ∨ OwnA ρ0 σ a
  own : ∀ a, OwnA ρ (L2.wipe σ vs) a → OwnA ρ0 σ a
  bor : ∀ (j : Nat) (d : D), ρ[j]? = some (.bor d) → ρ0[j]? = some (.bor d)
  obj : ∀ (j : Nat) (d : D), ρ[j]? = some (.own d) → isObj d = true → ∃ d0, ρ0[j]? = some (.own d0) ∧ isObj d0 = true
  len : ρ.length = ρ0.length
theorem LcInv.notOwn {T : Tx} {ρ0 ρ : En} {σ : L2.St} {vs : List Nat} {H1 Z1 H Z : Hp} {Dp : Addr} {acc : List D} (L : LcInv T ρ0 σ vs H1 Z1 Dp acc ρ H Z) (S0 : SOk T ρ0 σ H1 Z1) : ¬ OwnA ρ (L2.wipe σ vs) Dp := fun q => S0.notOwn L.new (L.own _ q)
theorem LcInv.notBor {T : Tx} {ρ0 ρ : En} {σ : L2.St} {vs : List Nat} {H1 Z1 H Z : Hp} {Dp : Addr} {acc : List D} (L : LcInv T ρ0 σ vs H1 Z1 Dp acc ρ H Z) (S0 : SOk T ρ0 σ H1 Z1) : ¬ BorA ρ (L2.wipe σ vs) Dp := fun ⟨j, d, h1, h2⟩ => S0.notBor L.new ⟨j, d, L.bor j d h1, by
  rw [wipe_get] at h2
  split at h2
  · cases h2
  · exact h2⟩
theorem lc_ok {W : WX} {t : Tn} {vs : List Nat} {elt : Mn Rv} {ds : List D} {J : It} {ρ : En} {σ : L2.St} {H Z : Hp} {Q : VK} (S : SOk (tx X) ρ σ H Z) {G : Addr → Prop} (hs : Src (tx X) G ρ σ H Z J ds)
    (p : Po kE (tx X) ρ σ H Z ((if okOwn ρ vs && t.ix.all (fun i => vs.contains i) then (match lcL t ta elt vs ds [] (wipeE ρ vs) with
      | some q => .ok (.own (.lst q.1)) (restE ρ q.2 vs)
      | none => .stuck) else .stuck : Out Rv)) W Q) (Dp : Addr) (hD : H Dp = none) :
    ∃ Wi : Nat → Nat → Hp → Prop, (∃ m, Wi 0 m (upd H Dp (.lst []))) ∧ ∀ i m H, Wi i m H → (J.stop i H ∧ Q (.ref Dp) H) ∨ (J.go i H ∧ ∃ Nx : Hp → Prop, (∀ H', Nx H' → ∃ m', m' < m ∧ Wi (i + 1) m' H') ∧
      ∀ x H', J.yld i H x H' → gTn X.K t x (L2.wipe σ vs) H' fun σ2 H2 => L2.wipe σ2 vs = L2.wipe σ vs ∧ tK kB (tx X) WF ta σ2 H2 fun b H3 =>
        if b = true then tK kD (tx X) WF (cV elt) σ2 H3 fun y H4 => ∃ acc, H4 Dp = some (.lst acc) ∧ acc.length < sizeLine ∧ Nx (upd H4 Dp (.lst (acc ++ [y]))) else Nx H3) := by
  by_cases hok : (okOwn ρ vs && t.ix.all (fun i => vs.contains i)) = true
  · rw [if_pos hok] at p
    rw [Bool.and_eq_true] at hok
    obtain ⟨ho, hix⟩ := hok
    have hix : ∀ j ∈ t.ix, j ∈ vs := fun j hj => by simpa using List.all_eq_true.mp hix j hj
    cases hq : lcL t ta elt vs ds [] (wipeE ρ vs) with
    | none => rw [hq] at p; exact p.elim
    | some fin =>
      rw [hq] at p
      refine ⟨fun i m H' => m = ds.length - i ∧ i ≤ ds.length ∧ ∃ acc ρ' Z', LcInv (tx X) ρ σ vs H Z Dp acc ρ' H' Z' ∧ lcL t ta elt vs (ds.drop i) acc ρ' = some fin, ⟨_, rfl, Nat.zero_le _, [], wipeE ρ vs, Z, ?_, by rw [List.drop_zero]; exact hq⟩, ?_⟩
      · exact ⟨(S.wipe vs).new hD, hD, ⟨[], upd_same, rfl⟩, S.zfree hD, upd_le hD, .refl _, fun a o e => .inl e, fun a h => wipe_ownA h, fun j d h => by
          rw [wipeE_get] at h
          split at h
          · cases h
          · exact h, fun j d h ob => by
          rw [wipeE_get] at h
          split at h
          · cases h
          · exact ⟨d, h, ob⟩, wipeE_len ρ vs⟩
      · rintro i m H' ⟨rfl, hi, acc, ρ', Z', L, hl⟩
        -- the source stands
        obtain ⟨P, hP, src⟩ := id hs
        have hsrc := src H' Z' (fun a ha => by
          obtain ⟨⟨o, ho⟩, _⟩ := hP a ha
          rw [L.same a o ho, ho]) L.le L.S.sub
        obtain ⟨hstop, hgo⟩ := hsrc
        rcases Nat.lt_or_ge i ds.length with hlt | hge
        · have hd : ds[i]? = some ds[i] := List.getElem?_eq_getElem hlt
          obtain ⟨g, y⟩ := hgo i _ hd
          refine .inr ⟨g, fun H2 => ds.length - (i + 1) = ds.length - (i + 1) ∧ i + 1 ≤ ds.length ∧ ∃ acc ρ' Z', LcInv (tx X) ρ σ vs H Z Dp acc ρ' H2 Z' ∧ lcL t ta elt vs (ds.drop (i + 1)) acc ρ' = some fin, fun H2 h => ⟨_, by omega, h⟩, fun x H2 yx => ?_⟩
          obtain ⟨l1, Z2, l2, l3, l4, r⟩ := y x H2 yx
          have S2 := L.S.growN l1 l2 l3 l4
          have noD := L.notOwn S
          have nbD := L.notBor S
          obtain ⟨ws, hws, rws⟩ := L.vals
          rw [drop_cons hd] at hl
          unfold lcL at hl
          cases ht : setTn t ds[i] ρ' with
          | none => rw [ht] at hl; cases hl
          | some ρ3 =>
            rw [ht] at hl
            refine setTn_ok ht S2 r fun σ3 S3 E3 b3 o3 => ?_
            have ew : L2.wipe σ3 vs = L2.wipe σ vs := by
              rw [wipe_eq b3.1 fun j hj => b3.2 j fun w => hj (hix j w), wipe_wipe]
            have hl' : ((lcTurn ta elt ρ3).bind fun q => match q.1 with
              | none => lcL t ta elt vs (ds.drop (i + 1)) acc (wipeE q.2 vs)
              | some y => if acc.length < sizeLine then lcL t ta elt vs (ds.drop (i + 1)) (acc ++ [y]) (wipeE q.2 vs) else none) = some fin := hl
            have E03 : Step ρ' (L2.wipe σ vs) H' Z' ρ3 σ3 H2 Z2 := (step_grow l1 l2 l4).trans E3
            -- what a turn's end asks, the list not yet longer
            have ends : ∀ (ρ4 : En) (H4 Z4 : Hp), SOk (tx X) ρ4 σ3 H4 Z4 → EStep ρ3 σ3 H2 Z2 ρ4 H4 Z4 → LcInv (tx X) ρ σ vs H Z Dp acc (wipeE ρ4 vs) H4 Z4 := fun ρ4 H4 Z4 S4 E4 => by
              have S5 := S4.wipe vs
              rw [ew] at S5
              have E04 : Step ρ' (L2.wipe σ vs) H' Z' ρ4 σ3 H4 Z4 := E03.trans E4.step
              have le4 : Le H' H4 := l1.trans E4.same
              refine ⟨S5, L.new, ⟨ws, le4 _ _ hws, rws.mono E04.le⟩, ?_, L.same.trans le4, L.le.trans E04.le, fun a o e => ?_, fun a q => ?_, fun j d q => ?_, fun j d q ob => ?_, ?_⟩
              · cases w : Z4 Dp with
                | none => rfl
                | some o =>
                  rcases E04.grow Dp o w with v | v | v
                  · rw [L.zD] at v; cases v
                  · rw [hws] at v; cases v
                  · exact (noD v).elim
              · rcases E04.grow a o e with v | v | v
                · exact L.grow a o v
                · refine .inr (.inl ?_)
                  cases hh : H a with
                  | none => rfl
                  | some o' => rw [L.same a o' hh] at v; cases v
                · exact .inr (.inr (L.own a v))
              · have q' : OwnA (wipeE ρ4 vs) (L2.wipe σ3 vs) a := by rw [ew]; exact q
                exact L.own a (o3 a (E4.ownE a (wipe_ownA q')))
              · rw [wipeE_get] at q
                split at q
                · cases q
                · exact L.bor j d (E04.bor j d q).1
              · rw [wipeE_get] at q
                split at q
                · cases q
                · obtain ⟨⟨d0, g1, g2⟩, _⟩ := E04.obj j d q ob
                  exact L.obj j d0 g1 g2
              · rw [wipeE_len, E4.len]
                have h1 := S3.len
                rw [b3.1, L2.wipe_length] at h1
                rw [h1, S.len]
            unfold lcTurn at hl'
            refine ⟨ew, ρ3, Z2, S3, ?_⟩
            cases hc : ta ρ3 with
            | stuck => rw [hc] at hl'; cases hl'
            | exc x ρ4 => rw [hc] at hl'; cases hl'
            | ok b ρ4 =>
              rw [hc] at hl'
              intro b' H4 Z4 S4 E4 eb
              obtain rfl : b' = b := eb
              cases b' with
              | false => exact ⟨rfl, hlt, acc, wipeE ρ4 vs, Z4, ends ρ4 H4 Z4 S4 E4, hl'⟩
              | true =>
                simp only at hl'
                refine ⟨ρ4, Z4, S4, ?_⟩
                cases he : cV elt ρ4 with
                | stuck => rw [he] at hl'; cases hl'
                | exc x ρ5 => rw [he] at hl'; cases hl'
                | ok y ρ5 =>
                  rw [he] at hl'
                  intro v H5 Z5 S5 E5 ry
                  have L5 := ends ρ5 H5 Z5 S5 (E4.trans E5)
                  obtain ⟨ws5, hws5, rws5⟩ := L5.vals
                  have hl2 : (if acc.length < sizeLine then lcL t ta elt vs (ds.drop (i + 1)) (acc ++ [y]) (wipeE ρ5 vs) else none) = some fin := hl'
                  by_cases hz : acc.length < sizeLine
                  · rw [if_pos hz] at hl2
                    refine ⟨ws5, hws5, by rw [← rws5.length]; exact hz, rfl, hlt, acc ++ [y], wipeE ρ5 vs, Z5, ?_, hl2⟩
                    exact ⟨L5.S.other L5.zD (L5.notOwn S) (L5.notBor S), L5.new, ⟨_, upd_same, rws5.append (.single ry)⟩, L5.zD, fun a o e => by
                      have ha : a ≠ Dp := fun w => by rw [w, hD] at e; cases e
                      rw [upd_ne ha]; exact L5.same a o e, L5.le, L5.grow, L5.own, L5.bor, L5.obj, L5.len⟩
                  · rw [if_neg hz] at hl2; cases hl2
        · have e : i = ds.length := by omega
          subst e
          rw [List.drop_length] at hl
          unfold lcL at hl
          cases hl
          refine .inl ⟨hstop, ?_⟩
          obtain ⟨ws, hws, rws⟩ := L.vals
          have gl : ρ'.length = ρ.length := L.len
          have hown : ∀ a, OwnA (restE ρ ρ' vs) σ a → OwnA ρ' (L2.wipe σ vs) a := fun a ⟨j, d, h1, h2⟩ => by
            rw [restE_get ρ ρ' gl] at h1
            split at h1
            · rename_i hj; exact absurd h1 ((okOwn_ok ho hj).1 d)
            · rename_i hj; exact ⟨j, d, h1, by rw [wipe_get, if_neg (fun w => hj w.1)]; exact h2⟩
          have hbor : ∀ a, BorA (restE ρ ρ' vs) σ a → BorA ρ' (L2.wipe σ vs) a := fun a ⟨j, d, h1, h2⟩ => by
            rw [restE_get ρ ρ' gl] at h1
            split at h1
            · rename_i hj; exact absurd h1 ((okOwn_ok ho hj).2 d)
            · rename_i hj; exact ⟨j, d, h1, by rw [wipe_get, if_neg (fun w => hj w.1)]; exact h2⟩
          have Sr : SOk (tx X) (restE ρ ρ' vs) σ H' Z' := by
            refine ⟨by rw [restE_len, gl]; exact S.len, L.S.sub, fun j s h => ?_, fun j k d d' a h1 h2 h3 h4 => ?_, fun a h1 h2 => L.S.sep a (hown a h1) (hbor a h2)⟩
            · rw [restE_get ρ ρ' gl] at h
              split at h
              · rename_i hj
                have z := S.slot j s h
                cases s with
                | emp => trivial
                | exn _ => exact XSl.mono z L.le
                | val d => obtain ⟨v, e, r⟩ := z; exact ⟨v, e, r.mono L.le⟩
                | own d => exact absurd h ((okOwn_ok ho hj).1 d)
                | bor d => exact absurd h ((okOwn_ok ho hj).2 d)
              · rename_i hj
                have z := L.S.slot j s h
                rw [wipe_get, if_neg (fun w => hj w.1)] at z
                exact z
            · rw [restE_get ρ ρ' gl] at h1 h2
              split at h1
              · rename_i hj; exact absurd h1 ((okOwn_ok ho hj).1 d)
              · rename_i hj
                split at h2
                · rename_i hk; exact absurd h2 ((okOwn_ok ho hk).1 d')
                · rename_i hk
                  exact L.S.inj j k d d' a h1 h2 (by rw [wipe_get, if_neg (fun w => hj w.1)]; exact h3) (by rw [wipe_get, if_neg (fun w => hk w.1)]; exact h4)
          refine p (.ref Dp) H' Z' Sr ⟨⟨fun a o e _ => L.same a o e, L.le, L.grow, fun a h => .inl (L.own a (hown a h)), fun a ⟨o, e⟩ => ⟨o, L.same a o e⟩, fun j d h => ⟨?_, rfl⟩, fun j d h ob => ?_⟩, L.same, by rw [restE_len, gl], fun a h => L.own a (hown a h)⟩
            ⟨Dp, rfl, ⟨ws, hws, rws⟩, L.zD, .inl hD, fun h => L.notOwn S (hown _ h), fun h => L.notBor S (hbor _ h), rfl⟩
          · rw [restE_get ρ ρ' gl] at h
            split at h
            · rename_i hj; exact absurd h ((okOwn_ok ho hj).2 d)
            · exact L.bor j d h
          · rw [restE_get ρ ρ' gl] at h
            split at h
            · rename_i hj; exact absurd h ((okOwn_ok ho hj).1 d)
            · exact ⟨L.obj j d h ob, rfl⟩
  · rw [if_neg hok] at p; exact p.elim
theorem lc_read {W : WX} {wi : TI} {t : Tn} {vs : List Nat} {elt : Mn Rv} {ci : Mn (List D)} (hi : ∀ σ H R, tK (kI (tx X) σ) (tx X) W ci σ H R → wi σ H R) : ∀ σ H Q, tK kE (tx X) W (cLc ci t ta elt vs) σ H Q →
    L2.tLc wi (gTn X.K t) (tK kB (tx X) WF ta) (tK kD (tx X) WF (cV elt)) vs σ H Q := fun σ H Q ⟨ρ, Z, S, p⟩ => by
  refine hi σ H _ ⟨ρ, Z, S, p.bnd (k1 := kI (tx X) σ) fun ds J ρ1 H1 Z1 S1 E1 o1 p1 => ?_⟩
  intro Dp hD
  exact lc_ok S1 o1 p1 Dp hD
theorem blk_pts {ifs : List Expr} {s : Shared} {H : Hp} {scope : Scope} {cenv : Env} {fp : List Addr} (hc : X.calm = true) (h : SC (X.blk s H scope cenv fp) ifs ta) : PTs (X.blk s H scope cenv fp) ifs (tK kB (tx X) WF ta) := by
  have h := h.run WF takes0
  rw [tx_calm (X := X.blk s H scope cenv fp) hc] at h
  rw [tx_calm hc]
  exact h
theorem blk_pe {elt : Expr} {ce : Mn Rv} {s : Shared} {H : Hp} {scope : Scope} {cenv : Env} {fp : List Addr} (hc : X.calm = true) (h : SE (X.blk s H scope cenv fp) elt ce) : PE (X.blk s H scope cenv fp) elt (tK kD (tx X) WF (cV ce)) := by
  have h := (sd_v h).run WF takes0
  rw [tx_calm (X := X.blk s H scope cenv fp) hc] at h
  rw [tx_calm hc]
  exact h
theorem se_lc {elt tg iter : Expr} {ifs : List Expr} {scope : Scope} {own : List (Str × Nat)} {ci : Mn (List D)} {t : Tn} {ce : Mn Rv} (hc : X.calm = true) (hN : X.N.Nodup) (hi : SI X tg iter ci) (ok : L2.BlkOk X.N X.env.scope scope own)
    (hg : ∀ (s : Shared) (H : Hp) (C : Addr) (cl : List (Str × Addr)) (fp : List Addr), SN (X.blk s H scope (compEnvC scope cl C X.env) fp) tg t) (ht : ∀ (s : Shared) (H : Hp) (C : Addr) (cl : List (Str × Addr)) (fp : List Addr), SC (X.blk s H scope (compEnvC scope cl C X.env) fp) ifs ta)
    (he : ∀ (s : Shared) (H : Hp) (C : Addr) (cl : List (Str × Addr)) (fp : List Addr), SE (X.blk s H scope (compEnvC scope cl C X.env) fp) elt ce) (hs : ∀ x, foldedSetIterable iter X.env x = pure x := by intro _; rfl) :
    SE X (.ListComp elt [⟨tg, iter, ifs, 0⟩] scope pos) (cLc ci t ta ce (own.map (·.2))) :=
  ⟨fun W tk => peI (L2.pe_lc hc hN (hi.run W tk) ok (fun s H C cl fp => (hg s H C cl fp).run) (fun s H C cl fp => blk_pts hc (ht s H C cl fp)) (fun s H C cl fp => blk_pe hc (he s H C cl fp)) hs) (lc_read fun _ _ _ h => h)⟩
theorem ss_setLc {y : Str} {py : Pos} {elt tg iter : Expr} {ifs : List Expr} {scope : Scope} {own : List (Str × Nat)} {spos : Pos} {ci : Mn (List D)} {t : Tn} {ce : Mn Rv} (hc : X.calm = true) (hN : X.N.Nodup) (hy : X.N[i]? = some y) (hyl : X.env.scope.names.lookup y = some .local)
    (hsw : swapsWith (.ListComp elt [⟨tg, iter, ifs, 0⟩] scope pos) (some (.Name y py)) spos.line X.env = pure true) (hi : SI X tg iter ci) (ok : L2.BlkOk X.N X.env.scope scope own)
    (hg : ∀ (s : Shared) (H : Hp) (C : Addr) (cl : List (Str × Addr)) (fp : List Addr), SN (X.blk s H scope (compEnvC scope cl C X.env) fp) tg t) (ht : ∀ (s : Shared) (H : Hp) (C : Addr) (cl : List (Str × Addr)) (fp : List Addr), SC (X.blk s H scope (compEnvC scope cl C X.env) fp) ifs ta)
    (he : ∀ (s : Shared) (H : Hp) (C : Addr) (cl : List (Str × Addr)) (fp : List Addr), SE (X.blk s H scope (compEnvC scope cl C X.env) fp) elt ce) (hs : ∀ x, foldedSetIterable iter X.env x = pure x := by intro _; rfl) :
    SS X (.Assign [.Name y py] (.ListComp elt [⟨tg, iter, ifs, 0⟩] scope pos) spos) (cSet i (cLc ci t ta ce (own.map (·.2)))) :=
  ⟨fun W tk => psI (L2.ps_setLc hc hN hy hyl hsw (hi.run W tk) ok (fun s H C cl fp => (hg s H C cl fp).run) (fun s H C cl fp => blk_pts hc (ht s H C cl fp)) (fun s H C cl fp => blk_pe hc (he s H C cl fp)) hs) fun Dn σ H h => by
    have h2 := set_ok (X := X) (hN := hN) Dn σ H h
    exact lc_read (fun _ _ _ h => h) σ H _ h2⟩
end
end CI
end
section
set_option maxRecDepth 100000
/-! CICall: defs, classes, fields, errors. -/
namespace CI
open PySem L2 PyProof.Rows
def CRes (T : Tx) (H H' Z' : Hp) (v : V) : Rv → Prop
  | .val d => Rep T Z' d v
  | .own d => ∃ a, v = .ref a ∧ OR T H' Z' a d ∧ Z' a = none ∧ H a = none ∧ isObj d = false
  | .bor _ => False
/-- behind a call: what stood stands -/
structure CStep (H Z H' Z' : Hp) : Prop where
  sub : Le Z' H'
  same : Le H H'
  le : Le Z Z'
  grow : ∀ a o, Z' a = some o → Z a = some o ∨ H a = none
def CPost (T : Tx) (H Z : Hp) (r : Res) (Q : VK) (E : XK) : Prop := match r with
  | .ok r => ∀ v H' Z', CStep H Z H' Z' → CRes T H H' Z' v r → Q v H'
  | .exc x => ∀ cls d H' Z', CStep H Z H' Z' → XOk T Z' x cls d → E cls d H'
  | .stuck => False
/-- the promise of a def by its plain meaning G; its last parameters may be given by defaults -/
def spF (T : Tx) (G : List Rv → Res) (n : Nat) : Sp := fun vs H Q E => ∃ Z rs, Le Z H ∧ ArgsOk T H Z vs rs ∧ vs.length = n ∧ CPost T H Z (G rs) Q E

section
variable {T : Tx} {ρ : En} {σ : L2.St} {H Z H' Z' : Hp}
theorem SOk.call (S : SOk T ρ σ H Z) (c : CStep H Z H' Z') : SOk T ρ σ H' Z' := S.growN c.same c.le c.sub c.grow
theorem EStep.call (c : CStep H Z H' Z') : EStep ρ σ H Z ρ H' Z' := ⟨step_grow c.same c.le c.grow, c.same, rfl, fun _ h => h⟩
theorem CRes.rv (S : SOk T ρ σ H Z) {v : V} {r : Rv} (h : CRes T H H' Z' v r) : RvOk T ρ σ H ρ H' Z' v r := by
  cases r with
  | val d => exact h
  | bor d => exact h.elim
  | own d => obtain ⟨a, e, r, z, n, n3⟩ := h; exact ⟨a, e, r, z, .inl n, S.notOwn n, S.notBor n, n3⟩
theorem cpost_of {W : WX} {Q : VK} {r : Res} (S : SOk T ρ σ H Z) (p : Po kE T ρ σ H Z (ofRes r ρ) W Q) : CPost T H Z r Q (WE W σ) := by
  cases r with
  | stuck => exact p
  | ok r => exact fun v H' Z' c q => p v H' Z' (S.call c) (.call c) (q.rv S)
  | exc x => exact fun cls d H' Z' c q => p cls d H' Z' (S.call c) (.call c) q
end
/-- where a body stands -/
structure Ev where
  prog : Program
  w : World
  K : PySem.W.Frag
  mg : Str → Option Value
  base : Heap
  A : Around
abbrev ev (X : Cx) : Ev := ⟨X.prog, X.w, X.K, X.mg, X.base, X.A⟩
/-- a name of the module may be called with n arguments: it means G -/
structure COk (X : Ev) (x : Str) (G : List Rv → Res) (n : Nat) : Prop where
  ex : ∃ (k : Nat) (f : Addr) (fd : FuncData) (ps : List Str) (ds : List Value) (dvs : List V) (dd : List D) (G' : List Rv → Res), X.mg x = some (.ref f) ∧ PySem.W.keepIn X.K (.ref f) = true ∧ Binds X.K fd ps ds ∧ Vals dvs ds ∧
    (∀ Z, Reps ⟨X.K, X.mg, none⟩ Z dd dvs) ∧ (∀ rs, G rs = G' (rs ++ dd.map Rv.val)) ∧ FnOk X.prog X.w X.K X.mg X.base (L2.CX X.prog X.w) k f fd ps (spF ⟨X.K, X.mg, none⟩ G' ps.length) ∧ n + dvs.length = ps.length ∧ Room k X.A
theorem ArgsOk.append {T : Tx} {H Z : Hp} {dd : List D} {dvs : List V} (h : Reps T Z dd dvs) : ∀ {vs : List V} {rs : List Rv}, ArgsOk T H Z vs rs → ArgsOk T H Z (vs ++ dvs) (rs ++ dd.map Rv.val)
  | [], [], _ => by
    have key : ∀ {dd : List D} {dvs : List V}, Reps T Z dd dvs → ArgsOk T H Z dvs (dd.map Rv.val) := fun {dd} => by
      induction dd with
      | nil => intro dvs r; rw [show dvs = [] from r]; trivial
      | cons d dd ih => intro dvs ⟨v, r, e, q, s⟩; rw [e]; exact ⟨q, ih s⟩
    exact key h
  | _ :: _, _ :: _, q => ⟨q.1, ArgsOk.append h q.2⟩
  | [], _ :: _, q => q.elim
  | _ :: _, [], q => q.elim
section
variable {X : Cx} {e : Expr} {es : List Expr} {cs : Mn (List Rv)} {p pos : Pos} {x : Str} {G : List Rv → Res}
theorem se_call (hc : X.calm = true) (C : COk (ev X) x G (es.length + 1)) (ha : SA X (e :: es) cs) (hg : Gl X x) (hdb : (x == ("__debug__" : Str)) = false := by decide) (he : starEach (e :: es) X.env = (false, eval e X.env) :: starEach es X.env := by rfl) (hpl : (backTo pos (starEach es X.env)).any (·.1) = false := by rfl)
    (hlen : ∀ ρ rs ρ', cs ρ = .ok rs ρ' → rs.length = es.length + 1) : SE X (.Call (.Name x p) (e :: es) [] pos) (cCallG G cs) := by
  obtain ⟨k, f, fd, ps, ds, dvs, dd, G', hm, hk, hb, hd, hdd, hG, FO, hn, hr⟩ := C.ex
  have ht := tx_calm hc
  have FO : FnOk X.prog X.w X.K X.mg X.base (L2.CX X.prog X.w) k f fd ps (spF (tx X) G' ps.length) := by rw [ht]; exact FO
  have hdd : ∀ Z, Reps (tx X) Z dd dvs := by rw [ht]; exact hdd
  refine ⟨fun W tk => peI (pe_callSD FO hr hg hm hk hb hd (fun σ => passAt tk σ) (ha.run W tk) hdb he hpl) (tE_of fun ρ σ H Z Q S p => ⟨ρ, Z, S, ?_⟩)⟩
  unfold cCallG CI.bnd at p
  cases q : cs ρ with
  | stuck => rw [q] at p; exact p
  | exc x ρ' => rw [q] at p; exact p
  | ok rs ρ' =>
    rw [q] at p
    intro vs H1 Z1 S1 E1 o1
    have p1 : Po kE (tx X) ρ' σ H1 Z1 (ofRes (G rs) ρ') W Q := Po.later p E1
    have hl : vs.length = es.length + 1 := by rw [ArgsOk.length o1]; exact hlen ρ rs ρ' q
    rw [hG rs] at p1
    exact ⟨Z1, rs ++ dd.map Rv.val, S1.sub, ArgsOk.append (hdd Z1) o1, by rw [List.length_append, hl]; exact hn, cpost_of S1 p1⟩
theorem len_nil : ∀ ρ rs ρ', (cNil : Mn (List Rv)) ρ = .ok rs ρ' → rs.length = 0 := fun ρ rs ρ' h => by cases h; rfl
theorem len_cons {a : Mn Rv} {r : Mn (List Rv)} {n : Nat} (h : ∀ ρ rs ρ', r ρ = .ok rs ρ' → rs.length = n) : ∀ ρ rs ρ', cCons a r ρ = .ok rs ρ' → rs.length = n + 1 := fun ρ rs ρ' e => by
  unfold cCons CI.bnd at e
  cases q : a ρ with
  | stuck => rw [q] at e; cases e
  | exc x ρ' => rw [q] at e; cases e
  | ok x ρ1 =>
    rw [q] at e
    simp only at e
    cases q2 : r ρ1 with
    | stuck => rw [q2] at e; cases e
    | exc x ρ' => rw [q2] at e; cases e
    | ok xs ρ2 =>
      rw [q2] at e
      cases e
      rw [List.length_cons, h _ _ _ q2]

/-! a def keeps its promise -/
theorem start_ok {T : Tx} {H Z : Hp} {N : List Str} {vs : List V} {rs : List Rv} {ns : Nat} (hs : Le Z H) (h : ArgsOk T H Z vs rs) (hl : vs.length ≤ N.length) (hn : N.length = ns) : SOk T (startE ns rs) (L2.start N vs) H Z ∧ ∀ a, ¬ OwnA (startE ns rs) (L2.start N vs) a := by
  have lr := h.length
  have noown : ∀ (i : Nat) (d : D), (startE ns rs)[i]? ≠ some (.own d) := fun i d e => by
    unfold startE at e
    rcases Nat.lt_or_ge i rs.length with w | w
    · rw [List.getElem?_append_left (by simpa using w), List.getElem?_map] at e
      cases q : rs[i]? with
      | none => rw [q] at e; cases e
      | some r => rw [q] at e; cases r <;> cases e
    · rw [List.getElem?_append_right (by simpa using w), List.getElem?_replicate] at e
      split at e <;> cases e
  have args : ∀ (vs : List V) (rs : List Rv), ArgsOk T H Z vs rs → ∀ (i : Nat) (r : Rv), rs[i]? = some r → ∃ v, vs[i]? = some v ∧ ArgOk T H Z v r := by
    intro vs
    induction vs with
    | nil =>
      intro rs h i r e
      cases rs with
      | nil => simp at e
      | cons _ _ => exact h.elim
    | cons v vs ih =>
      intro rs h i r e
      cases rs with
      | nil => exact h.elim
      | cons r' rs =>
        cases i with
        | zero => simp at e; subst e; exact ⟨v, by simp, h.1⟩
        | succ i => obtain ⟨u, h1, h2⟩ := ih rs h.2 i r (by simpa using e); exact ⟨u, by simpa using h1, h2⟩
  refine ⟨⟨?_, hs, fun i s e => ?_, fun i j d d' a h1 => absurd h1 (noown i d), fun a ⟨i, d, h1, _⟩ => absurd h1 (noown i d)⟩, fun a ⟨i, d, h1, _⟩ => noown i d h1⟩
  · unfold startE L2.start
    simp only [List.length_append, List.length_map, List.length_replicate]
    omega
  · unfold startE at e
    rcases Nat.lt_or_ge i rs.length with w | w
    · rw [List.getElem?_append_left (by simpa using w), List.getElem?_map] at e
      have hv : (L2.start N vs)[i]? = vs[i]?.map some := by
        unfold L2.start
        rw [List.getElem?_append_left (by simpa [lr] using w), List.getElem?_map]
      rw [hv]
      cases q : rs[i]? with
      | none => rw [q] at e; cases e
      | some r =>
        obtain ⟨v, ev, rv⟩ := args vs rs h i r q
        rw [q] at e
        rw [ev]
        cases r with
        | val d => cases e; exact ⟨v, rfl, rv⟩
        | own d => exact rv.elim
        | bor d => cases e; obtain ⟨a, ea, ra⟩ := rv; exact ⟨a, by rw [ea]; rfl, ra⟩
    · rw [List.getElem?_append_right (by simpa using w), List.getElem?_replicate] at e
      split at e
      · cases e; trivial
      · cases e
/-- what a body's end gives the caller -/
theorem fn_end {P : Program} {T : Tx} {H Z : Hp} {vs : List V} {rs : List Rv} {d : FnI} {F : Callee} {Q : VK} {E : XK} {ρ : En} {σ : L2.St} (ne : ∀ a, ¬ OwnA ρ σ a) (p : CPost T H Z (resOf (d.body F ρ)) Q E) :
    PoS T ρ σ H Z (d.body F ρ) (fun cls d _ H => E cls d H) { nx := fun _ H' => Q .non H', rt := Q } := by
  have cs : ∀ {ρ' : En} {σ' : L2.St} {H' Z' : Hp}, SOk T ρ' σ' H' Z' → Step ρ σ H Z ρ' σ' H' Z' → CStep H Z H' Z' := fun {ρ' σ' H' Z'} S' E' =>
    ⟨S'.sub, fun a o e => E'.frame a o e (ne a), E'.le, fun a o e => (E'.grow a o e).elim .inl fun w => w.elim .inr fun v => absurd v (ne a)⟩
  cases q : d.body F ρ with
  | stuck => rw [q] at p; exact p
  | exc x ρ' => rw [q] at p; exact fun cls dd σ' H' Z' S' E' x' => p cls dd H' Z' (cs S' E') x'
  | ok f ρ' =>
    rw [q] at p
    cases f with
    | nx => exact fun σ' H' Z' S' E' => p .non H' Z' (cs S' E') rfl
    | brk => exact p.elim
    | cnt => exact p.elim
    | ret r =>
      cases r with
      | bor d => exact p.elim
      | val d => exact fun v σ' H' Z' S' E' o' => p v H' Z' (cs S' E') o'
      | own d =>
        intro v σ' H' Z' S' E' ⟨a, e, r, z, n, n3⟩
        exact p v H' Z' (cs S' E') ⟨a, e, r, z, n.elim id (fun w => absurd w (ne a)), n3⟩
end
section
variable {P : Program} {w : World} {K : PySem.W.Frag} {mg : Str → Option Value} {base : Heap} {x qual : Str} {params : Arguments} {body : List Stmt} {scope : Scope} {dvs : List V} {kws : List (Str × V)} {f : Addr} {fd : FuncData} {N ps : List Str} {k : Nat} {d : FnI} {F : Callee}
/-- THE RULE for a def -/
theorem fn_ok (Fd : FunD K x qual params body scope dvs kws f fd) (S : FnScope N ps scope) (hp : ps.length = d.np) (hN : N.length = d.ns)
    (hb : ∀ (cdv : Value) (A : Around) (outer : List Env) (s : Shared) (H : Hp) (E : XK), Room k (A.deeper (envOfC qual scope s.heap.objs.size f cdv)) → SSs (cxOf (L2.CX P w) P w K mg base N qual scope f cdv A outer s H E) body (d.body F)) :
    FnOk P w K mg base (L2.CX P w) (k + 1) f fd ps (spF ⟨K, mg, none⟩ (runFn d F) ps.length) := by
  refine Fd.ok S (fun vs H Q E h => ?_) fun cdv A outer s H vs Q E hr h => ?_
  · obtain ⟨Z, rs, _, _, e, _⟩ := h
    exact e
  · obtain ⟨Z, rs, hs, ha, hl, p⟩ := h
    have hpl : ps.length ≤ N.length := by have := congrArg List.length S.pre; rw [List.length_take] at this; omega
    unfold runFn at p
    have hrl : rs.length = d.np := by rw [← ha.length, hl, hp]
    rw [if_pos hrl] at p
    obtain ⟨S0, ne⟩ := start_ok (N := N) (ns := d.ns) hs ha (by omega) hN
    exact ⟨_, (hb cdv A outer s H E hr).run (fun cls d _ H => E cls d H) (takes_of rfl rfl rfl rfl), startE d.ns rs, Z, S0, fn_end (P := P) (vs := vs) (rs := rs) ne p⟩
end
end CI
end
section
set_option maxRecDepth 100000
/-! CICls: classes made, fields, errors raised and caught. -/
namespace CI
open PySem L2 PyProof.Rows
/-- behind an __init__: what stood stands but the instance at x -/
structure IStep (x : Addr) (H Z H' Z' : Hp) : Prop where
  sub : Le Z' H'
  frame : ∀ a o, H a = some o → a ≠ x → H' a = some o
  le : Le Z Z'
  grow : ∀ a o, Z' a = some o → Z a = some o ∨ H a = none ∨ a = x
def IPost (T : Tx) (x C : Addr) (H Z : Hp) (r : Res) (Q : VK) (E : XK) : Prop := match r with
  | .ok (.val (.obj _ fs)) => ∀ H' Z' gs, IStep x H Z H' Z' → ∀ dx', H' x = some (.ins C dx' gs) → RepF T Z' fs gs → Z' x = none → Q .non H'
  | .exc y => ∀ cls d H' Z', IStep x H Z H' Z' → XOk T Z' y cls d → E cls d H'
  | _ => False
/-- the promise of an __init__ -/
def spI (T : Tx) (c : Str) (G : List Rv → Res) (n : Nat) : Sp := fun vs H Q E => ∃ Z H0 rs x C dx va, vs = .ref x :: va ∧ T.mg c = some (.ref C) ∧ H x = some (.ins C dx []) ∧ H0 x = none ∧ Le Z H0 ∧ Le H0 H ∧ ArgsOk T H0 Z va rs ∧ vs.length = n ∧ IPost T x C H Z (G rs) Q E
section
variable {P : Program} {w : World} {K : PySem.W.Frag} {mg : Str → Option Value} {base : Heap} {x qual c : Str} {params : Arguments} {body : List Stmt} {scope : Scope} {dvs : List V} {kws : List (Str × V)} {f : Addr} {fd : FuncData} {N ps : List Str} {k : Nat} {d : FnI} {F : Callee}
theorem start_own {T : Tx} {H0 H Z : Hp} {N : List Str} {va : List V} {rs : List Rv} {ns : Nat} {x C dx : Addr} (hz : Le Z H0) (h0 : Le H0 H) (hx0 : H0 x = none) (hm : T.mg c = some (.ref C)) (hx : H x = some (.ins C dx [])) (h : ArgsOk T H0 Z va rs) (hl : va.length + 1 ≤ N.length) (hn : N.length = ns) :
    SOk T (.own (.obj c []) :: startE (ns - 1) rs) (L2.start N (.ref x :: va)) H Z ∧ (∀ a, OwnA (.own (.obj c []) :: startE (ns - 1) rs) (L2.start N (.ref x :: va)) a → a = x) := by
  have zx : Z x = none := by
    cases e : Z x with
    | none => rfl
    | some o => rw [hz x o e] at hx0; cases hx0
  have hN : ∃ n0 N', N = n0 :: N' := by cases N with
    | nil => simp at hl
    | cons n0 N' => exact ⟨n0, N', rfl⟩
  obtain ⟨n0, N', rfl⟩ := hN
  have est : L2.start (n0 :: N') (.ref x :: va) = some (.ref x) :: L2.start N' va := by
    unfold L2.start
    simp
  obtain ⟨S0, ne⟩ := start_ok (N := N') (ns := ns - 1) (hz.trans h0) (ArgsOk.mono h h0 (.refl _)) (by simp at hl; omega) (by simp at hn; omega)
  have S1 := (start_ok (N := N') (ns := ns - 1) hz h (by simp at hl; omega) (by simp at hn; omega)).1
  rw [est]
  have ownx : ∀ a, OwnA (.own (.obj c []) :: startE (ns - 1) rs) (some (.ref x) :: L2.start N' va) a → a = x := fun a ⟨i, d, h1, h2⟩ => by
    cases i with
    | zero => simp at h2; exact h2.symm
    | succ i => exact absurd ⟨i, d, by simpa using h1, by simpa using h2⟩ (ne a)
  refine ⟨⟨by simpa using S0.len, S0.sub, fun i s e => ?_, fun i j d d' a h1 h2 h3 h4 => ?_, fun a h1 h2 => ?_⟩, ownx⟩
  · cases i with
    | zero =>
      simp at e; subst e
      exact ⟨x, by simp, ⟨C, dx, [], hm, hx, rfl⟩, zx⟩
    | succ i =>
      have := S0.slot i s (by simpa using e)
      simpa using this
  · cases i with
    | zero => cases j with
      | zero => rfl
      | succ j => exact absurd ⟨j, d', by simpa using h2, by simpa using h4⟩ (ne a)
    | succ i => exact absurd ⟨i, d, by simpa using h1, by simpa using h3⟩ (ne a)
  · have e := ownx a h1
    subst e
    obtain ⟨i, d, g1, g2⟩ := h2
    cases i with
    | zero => simp at g1
    | succ i =>
      obtain ⟨o, ho⟩ := S1.bor ⟨i, d, by simpa using g1, by simpa using g2⟩
      rw [hx0] at ho; cases ho
/-- THE RULE for an __init__ -/
theorem init_ok (Fd : FunD K x qual params body scope dvs kws f fd) (S : FnScope N ps scope) (hp : ps.length = d.np) (hN : N.length = d.ns)
    (hb : ∀ (cdv : Value) (A : Around) (outer : List Env) (s : Shared) (H : Hp) (E : XK), Room k (A.deeper (envOfC qual scope s.heap.objs.size f cdv)) → SSs (cxOf (L2.CX P w) P w K mg base N qual scope f cdv A outer s H E) body (d.body F)) :
    FnOk P w K mg base (L2.CX P w) (k + 1) f fd ps (spI ⟨K, mg, none⟩ c (runInit c d F) ps.length) := by
  refine Fd.ok S (fun vs H Q E h => ?_) fun cdv A outer s H vs Q E hr h => ?_
  · obtain ⟨Z, H0, rs, x, C, dx, va, _, _, _, _, _, _, _, e, _⟩ := h
    exact e
  · obtain ⟨Z, H0, rs, x, C, dx, va, rfl, hm, hx, hx0, hz, h0, ha, hl, p⟩ := h
    have hpl : ps.length ≤ N.length := by have := congrArg List.length S.pre; rw [List.length_take] at this; omega
    have hl' : va.length + 1 = ps.length := by simpa using hl
    have hrl : rs.length + 1 = d.np := by rw [← ha.length, ← hp]; exact hl'
    unfold runInit at p
    rw [if_pos hrl] at p
    obtain ⟨S0, ne⟩ := start_own (N := N) (ns := d.ns) (c := c) (T := ⟨K, mg, none⟩) hz h0 hx0 hm hx ha (by omega) hN
    refine ⟨_, (hb cdv A outer s H E hr).run (fun cls d _ H => E cls d H) (takes_of rfl rfl rfl rfl), _, Z, S0, ?_⟩
    have cs : ∀ {ρ' : En} {σ' : L2.St} {H' Z' : Hp}, SOk ⟨K, mg, none⟩ ρ' σ' H' Z' → Step (.own (.obj c []) :: startE (d.ns - 1) rs) (L2.start N (.ref x :: va)) H Z ρ' σ' H' Z' → IStep x H Z H' Z' := fun {ρ' σ' H' Z'} S' E' =>
      ⟨S'.sub, fun a o e n => E'.frame a o e fun q => n (ne a q), E'.le, fun a o e => (E'.grow a o e).elim .inl fun q => .inr (q.elim .inl fun q => .inr (ne a q))⟩
    cases q : d.body F (.own (.obj c []) :: startE (d.ns - 1) rs) with
    | stuck => rw [q] at p; exact p
    | exc y ρ' => rw [q] at p; exact fun cls dd σ' H' Z' S' E' x' => p cls dd H' Z' (cs S' E') x'
    | ok fl ρ' =>
      rw [q] at p
      cases fl with
      | brk => exact p.elim
      | cnt => exact p.elim
      | ret r => exact p.elim
      | nx =>
        intro σ' H' Z' S' E'
        simp only [initEnd] at p
        split at p
        · rename_i c' fs h0'
          split at p
          · rename_i hc
            obtain ⟨a, ea, ⟨C', dx', gs, m', hi, rf⟩, za⟩ := S'.slot 0 _ h0'
            obtain ⟨_, es⟩ := E'.obj 0 _ h0' rfl
            rw [ea] at es
            have e1 : (L2.start N (V.ref x :: va))[0]? = some (some (.ref x)) := by
              unfold L2.start; simp
            rw [e1] at es
            cases es
            subst hc
            have ec : C' = C := by
              have e2 := hm.symm.trans m'
              cases e2; rfl
            subst ec
            -- the instance's own dict stays
            exact p H' Z' gs (cs S' E') dx' hi rf za
          · exact p.elim
        · exact p.elim
end

section
variable {X : Cx} {e o : Expr} {es : List Expr} {cs : Mn (List Rv)} {ce co : Mn Rv} {p pos pos' apos : Pos} {x n : Str} {G : List Rv → Res} {i : Nat}
/-- a class of the text may be called with n arguments -/
structure MOk (X : Ev) (c : Str) (G : List Rv → Res) (n : Nat) : Prop where
  ex : ∃ (k : Nat) (C f : Addr) (fd : FuncData) (ps : List Str) (ds : List Value) (dvs : List V) (dd : List D) (G' : List Rv → Res), X.mg c = some (.ref C) ∧ L2.Mk X.K C f ∧ Binds X.K fd ps ds ∧ Vals dvs ds ∧
    (∀ Z, Reps ⟨X.K, X.mg, none⟩ Z dd dvs) ∧ (∀ rs, G rs = G' (rs ++ dd.map Rv.val)) ∧ FnOk X.prog X.w X.K X.mg X.base (L2.CX X.prog X.w) k f fd ps (spI ⟨X.K, X.mg, none⟩ c G' ps.length) ∧ n + 1 + dvs.length = ps.length ∧ Room (k + 1) X.A ∧ (∀ rs r, G' rs = .ok r → ∃ fs, r = .val (.obj c fs))
theorem run_makeS {k : Nat} {C f : Addr} {fd : FuncData} {ps : List Str} {sp : Sp} {dvs : List V} {ds : List Value} {pins : List (Addr × Obj)} {σ : L2.St} {H : Hp} {s : Shared} {Q : VK} {us : List Value} {vs : List V} {E : XK} (M : L2.Mk X.K C f) (F : FnOk X.prog X.w X.K X.mg X.base (L2.CX X.prog X.w) k f fd ps sp) (hr : Room (k + 1) X.A) (hb : Binds X.K fd ps ds) (hd : Vals dvs ds)
    (hx : ∀ (H' : Hp) (s' : Shared), Inv X pins σ H' s' → ∀ e s'', L2.CX X.prog X.w X.stack H' s' E e s'' → X.xe e s'') (I : Inv X pins σ H s) (r : Vals vs us)
    (h : ∀ x dx, H x = none → H dx = none → dx ≠ x → sp (.ref x :: (vs ++ dvs)) (upd (upd H dx (.own x)) x (.ins C dx [])) (fun v H2 => v = .non ∧ Q (.ref x) H2) E) :
    wpAny (model X.prog X.w) X.A (call (.ref C) us) (EP X pins σ Q) X.xe s := by
  have hq := h (s.heap.objs.size + 1) s.heap.objs.size (I.hok.fresh (Nat.le_succ _)) (I.hok.fresh (Nat.le_refl _)) (Nat.ne_of_lt (Nat.lt_succ_self _))
  have I2 := Inv.made (C := C) I
  have r2 : Vals (V.ref (s.heap.objs.size + 1) :: (vs ++ dvs)) (Value.ref (s.heap.objs.size + 1) :: (us ++ ds)) := .cons rfl (r.append hd)
  have hl : (Value.ref (s.heap.objs.size + 1) :: us ++ ds).length = ps.length := by
    have e := r2.length
    rw [F.len _ _ _ _ hq] at e
    exact e.symm
  refine wpAny_call (make_map (f := f) I.kIn M.makes M.init (beq_iff_eq.mp M.fn) (codeAny_mono (F.run _ X.stack _ _ ⟨Value.ref (s.heap.objs.size + 1) :: us, []⟩ (Value.ref (s.heap.objs.size + 1) :: (us ++ ds)) _ _ E (hr.make C us [])
    (I2.env0.make C us []) (hb _ (Value.ref (s.heap.objs.size + 1) :: us) I2.kIn hl) r2 hq) fun r s' hq' => ?_))
  cases r with
  | error e => exact hx _ _ I2 e s' hq'
  | ok fl =>
    cases fl with
    | ret u =>
      obtain ⟨v, H', I3, rv, ev, q3⟩ := I2.after hq'
      subst ev
      exact ⟨rv, ⟨V.ref (s.heap.objs.size + 1), H', I3, rfl, q3⟩⟩
    | next => exact False.elim hq'
    | brk => exact False.elim hq'
    | cont => exact False.elim hq'
theorem se_make (hc : X.calm = true) (C : MOk (ev X) x G (es.length + 1)) (ha : SA X (e :: es) cs) (hg : Gl X x) (hdb : (x == ("__debug__" : Str)) = false := by decide) (he : starEach (e :: es) X.env = (false, eval e X.env) :: starEach es X.env := by rfl) (hpl : (backTo pos (starEach es X.env)).any (·.1) = false := by rfl)
    (hlen : ∀ ρ rs ρ', cs ρ = .ok rs ρ' → rs.length = es.length + 1) : SE X (.Call (.Name x p) (e :: es) [] pos) (cCallG G cs) := by
  obtain ⟨k, C, f, fd, ps, ds, dvs, dd, G', hm, M, hb, hd, hdd, hG, FO, hn, hr, hcl⟩ := C.ex
  have ht := tx_calm hc
  have FO : FnOk X.prog X.w X.K X.mg X.base (L2.CX X.prog X.w) k f fd ps (spI (tx X) x G' ps.length) := by rw [ht]; exact FO
  have hdd : ∀ Z, Reps (tx X) Z dd dvs := by rw [ht]; exact hdd
  refine ⟨fun W tk => ⟨fun pins s σ H Q I ⟨ρ, Z, S, pp⟩ => ?_⟩⟩
  refine wpAny_Call_Name_kw (ld_glob I hg hm ?_ hdb)
  refine PySem.W.callWith_K (h₀ := X.base) I.ok.mod.kin M.kp (thn ((ha.run W tk).run pos pins s σ H (fun vs H1 => ∃ rs ρ1 Z1, vs.length = es.length + 1 ∧ SOk (tx X) ρ1 σ H1 Z1 ∧ ArgsOk (tx X) H1 Z1 vs rs ∧ Po kE (tx X) ρ1 σ H1 Z1 (ofRes (G rs) ρ1) W Q) I ⟨ρ, Z, S, ?_⟩) fun us s1 ⟨vs, H1, I1, r, rs, ρ1, Z1, hl, S1, ao, p1⟩ => ⟨I1.kIn, ?_⟩) he hpl
  · unfold cCallG CI.bnd at pp
    cases q : cs ρ with
    | stuck => rw [q] at pp; exact pp
    | exc x ρ' => rw [q] at pp; exact pp
    | ok rs ρ' =>
      rw [q] at pp
      intro vs H1 Z1 S1 E1 o1
      have p1 : Po kE (tx X) ρ' σ H1 Z1 (ofRes (G rs) ρ') W Q := Po.later pp E1
      exact ⟨rs, ρ', Z1, by rw [ArgsOk.length o1]; exact hlen ρ rs ρ' q, S1, o1, p1⟩
  · refine run_makeS (E := WE W σ) M FO hr hb hd (fun H' s' I' e s'' c => tk e s'' (XE.of_call I' (fun _ _ _ h => h) c)) I1 r fun x dx hx hdx hne => ?_
    rw [hG rs] at p1
    have noteq : ∀ a o, H1 a = some o → a ≠ x ∧ a ≠ dx := fun a o e => ⟨ne_of_none e hx, ne_of_none e hdx⟩
    refine ⟨Z1, H1, rs ++ dd.map Rv.val, x, C, dx, vs ++ dvs, rfl, hm, upd_same, hx, S1.sub, fun a o e => by rw [upd_ne (noteq a o e).1, upd_ne (noteq a o e).2]; exact e, ArgsOk.append (hdd Z1) ao, by rw [List.length_cons, List.length_append, hl]; omega, ?_⟩
    have cstep : ∀ {H' Z' : Hp}, IStep x (upd (upd H1 dx (.own x)) x (.ins C dx [])) Z1 H' Z' → CStep H1 Z1 H' Z' := fun {H' Z'} s => ⟨s.sub, fun a o e => s.frame a o (by rw [upd_ne (noteq a o e).1, upd_ne (noteq a o e).2]; exact e) (noteq a o e).1, s.le, fun a o e => by
      rcases s.grow a o e with q | q | q
      · exact .inl q
      · by_cases ha : a = x
        · rw [ha]; exact .inr hx
        · by_cases hb : a = dx
          · rw [hb]; exact .inr hdx
          · rw [upd_ne ha, upd_ne hb] at q; exact .inr q
      · rw [q]; exact .inr hx⟩
    cases hr2 : G' (rs ++ dd.map Rv.val) with
    | stuck => rw [hr2] at p1; exact p1.elim
    | exc y =>
      rw [hr2] at p1
      exact fun cls d H' Z' st x' => p1 cls d H' Z' (S1.call (cstep st)) (.call (cstep st)) x'
    | ok rv =>
      rw [hr2] at p1
      obtain ⟨fs, rfl⟩ := hcl _ _ hr2
      intro H' Z' gs st dx' hi rf zx
      refine ⟨rfl, ?_⟩
      have c1 := cstep st
      have c2 : CStep H1 Z1 H' (frz Z' H' x) := ⟨frz_sub st.sub, c1.same, c1.le.trans (frz_le zx), fun a o e => by
        by_cases ha : a = x
        · rw [ha]; exact .inr hx
        · rw [frz_ne ha] at e; exact c1.grow a o e⟩
      exact p1 (.ref x) H' _ (S1.call c2) (.call c2) ⟨x, C, dx', gs, rfl, hm, frz_at.trans hi, rf.mono (frz_le zx)⟩

/-! fields -/
/-- the classes of these names have no class attribute f -/
def FOk (X : Ev) (cl : List Str) (f : Str) : Prop := ∀ c C, c ∈ cl → X.mg c = some (.ref C) → L2.Cls X.K C ∧ L2.NoAttr X.K C f
theorem rd_obj {T : Tx} {H Z : Hp} {v : V} {c : Str} {fs : List (Str × D)} (s : Le Z H) (h : RdOk T H Z v (.obj c fs)) : ∃ a C dx gs, v = .ref a ∧ T.mg c = some (.ref C) ∧ H a = some (.ins C dx gs) ∧ RepF T Z fs gs := by
  rcases h with ⟨a, C, dx, gs, e, m, q, r⟩ | ⟨a, e, C, dx, gs, m, q, r⟩
  · exact ⟨a, C, dx, gs, e, m, s _ _ q, r⟩
  · exact ⟨a, C, dx, gs, e, m, q, r⟩
theorem se_fld {cl : List Str} {f : Str} (hf : FOk (ev X) cl f) (he : SE X o co) (hb : attributeBase o f X.env (eval o X.env) = eval o X.env := by rfl) : SE X (.Attribute o f pos) (cFld cl f co) :=
  ⟨fun W tk => peI (pe_fld (he.run W tk) hb) (tE_of fun ρ σ H Z Q S p => ⟨ρ, Z, S, p.bnd (k1 := kE) fun r v ρ1 H1 Z1 S1 E1 o1 p1 => by
    cases hd : fldD cl f r.d with
    | none => rw [hd] at p1; exact p1.elim
    | some d =>
      rw [hd] at p1
      cases hr : r.d with
      | obj c fs =>
        rw [hr] at hd
        have rd := RvOk.read o1
        rw [hr] at rd
        simp only [fldD] at hd
        split at hd
        · rename_i hc
          obtain ⟨a, C, dx, gs, rfl, m, q, rf⟩ := rd_obj S1.sub rd
          obtain ⟨u, hu, ru⟩ := rf.lookup hd
          obtain ⟨f1, f2⟩ := hf c C hc m
          exact ⟨a, C, dx, gs, u, rfl, q, f1, f2, hu, Po.out (k := kE) (a := .val d) p1 S1 ru⟩
        · cases hd
      | _ => rw [hr] at hd; cases hd⟩)⟩
theorem putF_rep {T : Tx} {Z : Hp} {f : Str} {d : D} {v : V} (h : Rep T Z d v) : ∀ {fs : List (Str × D)} {gs : List (Str × V)}, RepF T Z fs gs → RepF T Z (putFD f d fs) (L2.putF f v gs)
  | [], gs, r => by rw [show gs = [] from r]; exact ⟨v, [], rfl, h, rfl⟩
  | (g, d0) :: fs, gs, ⟨u, r, e, q, s⟩ => by
    subst e
    unfold putFD L2.putF
    by_cases hg : g = f
    · rw [if_pos hg, if_pos hg, hg]; exact ⟨v, r, rfl, h, s⟩
    · rw [if_neg hg, if_neg hg]; exact ⟨u, _, rfl, q, putF_rep h s⟩
theorem ss_fld {c f : Str} {po : Pos} (hf : FOk (ev X) [c] f) (hN : X.N[i]? = some x) (hv : Vis X.env.scope x) (he : SE X e ce) (hd : (x == ("__debug__" : Str)) = false := by decide) (hcd : (x == ("__classdict__" : Str)) = false := by decide)
    (hs : swapsWith e (some (.Attribute (.Name x po) f pos')) pos.line X.env = pure false := by rfl) : SS X (.Assign [.Attribute (.Name x po) f pos'] e pos) (cFldS i c f ce) :=
  ⟨fun W tk => psI (ps_fld (pe_var hN hv hd hcd) ((sd_v he).run W tk) hs) (tS_of fun ρ σ H Z Dn S p => ⟨ρ, Z, S, p.bnd (k := kD) fun d v ρ1 H1 Z1 S1 E1 o1 p2 => by
    have p3 := PoS.bndN (R := fun σ' H' => Dn.nx σ' H') p2 fun ρ2 σ2 H2 Z2 S2 E2 p4 => p4 σ2 H2 Z2 S2 (.refl _ _ _ _)
    obtain ⟨d0, d', g1, g2, g3⟩ := mutU_ok (T := tx X) p3.ns
    rw [g3] at p3
    unfold putD at g2
    split at g2
    · rename_i c' fs
      split at g2
      · rename_i hc
        cases g2
        obtain ⟨a, ea, ⟨C, dx, gs, m, q, rf⟩, _⟩ := S1.slot i _ g1
        have hcc : c' ∈ [c] := by rw [hc.1]; simp
        obtain ⟨f1, f2⟩ := hf c' C hcc m
        have M := S1.mut (d' := .obj c' (putFD f d fs)) (o := .ins C dx (L2.putF f v gs)) g1 ea ⟨C, dx, _, m, upd_same, putF_rep o1 rf⟩ fun _ => rfl
        exact ⟨_, ea, a, C, dx, gs, rfl, q, f1, f2, by rw [← rf.length]; exact hc.2, p3 σ _ Z1 M.1 M.2⟩
      · cases g2
    · cases g2⟩)⟩

/-! raise -/
/-- an own error class without fields -/
structure EOk (X : Ev) (c : Str) : Prop where
  ex : ∃ C, X.mg c = some (.ref C) ∧ PySem.W.excIn X.K C [.type "ValueError", .type "Exception", .type "BaseException", .type "object"] "ValueError.__new__" = true ∧ PySem.W.keepIn X.K (.ref C) = true ∧ PySem.W.subIn X.K (.ref C) (.type "BaseException") = some true ∧ PySem.W.typeIn X.K (.ref C) = some (.type "type")
theorem ss_rse {m : Str} {j : Nat} {p2 : Pos} (hc : X.calm = true) (h : EOk (ev X) x) (hg : Gl X x) (hdb : (x == ("__debug__" : Str)) = false := by decide) : SS X (.Raise (some (.Call (.Name x p) [.Constant (.str m) j p2] [] pos)) none pos') (cRse x) := by
  obtain ⟨C, hm, h1, h2, h3, h4⟩ := h.ex
  exact ⟨fun W tk => psI (ps_raise hc tk (pmk_own PySem.F.excBase_ValueError h1 hm h2 (raises_own h3 h4) hg hdb)) (tS_of fun ρ σ H Z Dn S p => p _ _ σ H Z S (.refl _ _ _ _) ⟨C, hm, rfl, .inl ⟨rfl, rfl⟩⟩)⟩
end
end CI
end
section
set_option maxRecDepth 100000
/-! CITry: try .. except .. as. -/
namespace CI
open PySem L2 PyProof.Rows
mutual
theorem Rep.congr {T T' : Tx} {Z : Hp} (hK : T.K = T'.K) (hm : T.mg = T'.mg) : ∀ {d : D} {v : V}, Rep T Z d v → Rep T' Z d v
  | .non, _, r => r
  | .bl _, _, r => r
  | .int _, _, r => r
  | .str _, _, r => r
  | .tup _, _, ⟨a, vs, e, q, r⟩ => ⟨a, vs, e, hK ▸ q, Reps.congr hK hm r⟩
  | .lst _, _, ⟨a, vs, e, q, r⟩ => ⟨a, vs, e, q, Reps.congr hK hm r⟩
  | .dic _, _, ⟨a, e, es, q, r⟩ => ⟨a, e, es, q, RepK.congr hK hm r⟩
  | .obj _ _, _, ⟨a, C, dx, gs, e, m, q, r⟩ => ⟨a, C, dx, gs, e, hm ▸ m, q, RepF.congr hK hm r⟩
  | .glo _, _, ⟨a, e, m⟩ => ⟨a, e, hm ▸ m⟩
theorem Reps.congr {T T' : Tx} {Z : Hp} (hK : T.K = T'.K) (hm : T.mg = T'.mg) : ∀ {ds : List D} {vs : List V}, Reps T Z ds vs → Reps T' Z ds vs
  | [], _, r => r
  | _ :: _, _, ⟨v, r, e, q, s⟩ => ⟨v, r, e, Rep.congr hK hm q, Reps.congr hK hm s⟩
theorem RepF.congr {T T' : Tx} {Z : Hp} (hK : T.K = T'.K) (hm : T.mg = T'.mg) : ∀ {ds : List (Str × D)} {vs : List (Str × V)}, RepF T Z ds vs → RepF T' Z ds vs
  | [], _, r => r
  | (_, _) :: _, _, ⟨v, r, e, q, s⟩ => ⟨v, r, e, Rep.congr hK hm q, RepF.congr hK hm s⟩
theorem RepK.congr {T T' : Tx} {Z : Hp} (hK : T.K = T'.K) (hm : T.mg = T'.mg) : ∀ {ds : List (D × D)} {vs : List (Key × V)}, RepK T Z ds vs → RepK T' Z ds vs
  | [], _, r => r
  | (_, _) :: _, _, ⟨q, v, r, e, q1, q2, s⟩ => ⟨q, v, r, e, Rep.congr hK hm q1, Rep.congr hK hm q2, RepK.congr hK hm s⟩
end
theorem OR.congr {T T' : Tx} {H Z : Hp} {a : Addr} {d : D} (hK : T.K = T'.K) (hm : T.mg = T'.mg) (h : OR T H Z a d) : OR T' H Z a d := by
  cases d with
  | lst _ => obtain ⟨vs, q, r⟩ := h; exact ⟨vs, q, r.congr hK hm⟩
  | dic _ => obtain ⟨vs, q, r⟩ := h; exact ⟨vs, q, r.congr hK hm⟩
  | obj _ _ => obtain ⟨C, dx, gs, m, q, r⟩ := h; exact ⟨C, dx, gs, hm ▸ m, q, r.congr hK hm⟩
  | _ => exact h.elim
theorem RetOk.congr {T T' : Tx} {ρ : En} {σ : L2.St} {H H' Z' : Hp} {v : V} {r : Rv} (hK : T.K = T'.K) (hm : T.mg = T'.mg) (h : RetOk T ρ σ H H' Z' v r) : RetOk T' ρ σ H H' Z' v r := by
  cases r with
  | val d => exact Rep.congr hK hm h
  | bor d => exact h
  | own d => obtain ⟨a, e, r, z⟩ := h; exact ⟨a, e, r.congr hK hm, z⟩
section
variable {T T' : Tx} {ρ : En} {σ : L2.St} {H Z : Hp} {i : Nat}
/-- slot i is forgotten -/
theorem SOk.gone (S : SOk T ρ σ H Z) : SOk T (ρ.set i .emp) (σ.set i none) H Z := by
  have own_in : ∀ {b : Addr}, OwnA (ρ.set i .emp) (σ.set i none) b → OwnA ρ σ b := fun {b} ⟨j, d, h1, h2⟩ => by
    rcases set_get h1 with ⟨_, e⟩ | ⟨hj, e⟩
    · cases e
    · rw [List.getElem?_set_ne hj] at h2; exact ⟨j, d, e, h2⟩
  have bor_in : ∀ {b : Addr}, BorA (ρ.set i .emp) (σ.set i none) b → BorA ρ σ b := fun {b} ⟨j, d, h1, h2⟩ => by
    rcases set_get h1 with ⟨_, e⟩ | ⟨hj, e⟩
    · cases e
    · rw [List.getElem?_set_ne hj] at h2; exact ⟨j, d, e, h2⟩
  refine ⟨by rw [List.length_set, List.length_set]; exact S.len, S.sub, fun j s hj => ?_, fun j k d1 d2 a h1 h2 h3 h4 => ?_, fun a h1 h2 => S.sep a (own_in h1) (bor_in h2)⟩
  · rcases set_get hj with ⟨_, rfl⟩ | ⟨n, hj⟩
    · trivial
    · rw [List.getElem?_set_ne n]; exact S.slot j s hj
  · rcases set_get h1 with ⟨_, e⟩ | ⟨n1, h1⟩
    · cases e
    · rcases set_get h2 with ⟨_, e⟩ | ⟨n2, h2⟩
      · cases e
      · rw [List.getElem?_set_ne n1] at h3
        rw [List.getElem?_set_ne n2] at h4
        exact S.inj j k d1 d2 a h1 h2 h3 h4
theorem clean_get {j : Nat} {s : Sl} (h : (clean ρ)[j]? = some s) : (s = .emp) ∨ (ρ[j]? = some s ∧ ∀ x, s ≠ .exn x) := by
  unfold clean at h
  rw [List.getElem?_map] at h
  cases q : ρ[j]? with
  | none => rw [q] at h; cases h
  | some u =>
    rw [q] at h
    cases u with
    | exn x => cases h; exact .inl rfl
    | emp => cases h; exact .inl rfl
    | val d => cases h; exact .inr ⟨rfl, fun _ z => by cases z⟩
    | own d => cases h; exact .inr ⟨rfl, fun _ z => by cases z⟩
    | bor d => cases h; exact .inr ⟨rfl, fun _ z => by cases z⟩
theorem clean_own {a : Addr} (h : OwnA (clean ρ) σ a) : OwnA ρ σ a := by
  obtain ⟨j, d, h1, h2⟩ := h
  rcases clean_get h1 with e | ⟨e, _⟩
  · cases e
  · exact ⟨j, d, e, h2⟩
theorem clean_bor {a : Addr} (h : BorA (clean ρ) σ a) : BorA ρ σ a := by
  obtain ⟨j, d, h1, h2⟩ := h
  rcases clean_get h1 with e | ⟨e, _⟩
  · cases e
  · exact ⟨j, d, e, h2⟩
theorem SOk.clean (S : SOk T ρ σ H Z) (hK : T.K = T'.K) (hm : T.mg = T'.mg) : SOk T' (clean ρ) σ H Z := by
  refine ⟨by unfold CI.clean; rw [List.length_map]; exact S.len, S.sub, fun j s hj => ?_, fun j k d1 d2 a h1 h2 h3 h4 => ?_, fun a h1 h2 => S.sep a (clean_own h1) (clean_bor h2)⟩
  · rcases clean_get hj with rfl | ⟨hj, nx⟩
    · trivial
    · have z := S.slot j s hj
      cases s with
      | emp => trivial
      | exn x => exact absurd rfl (nx x)
      | val d => obtain ⟨v, e, r⟩ := z; exact ⟨v, e, r.congr hK hm⟩
      | own d => obtain ⟨b, e, r, q⟩ := z; exact ⟨b, e, r.congr hK hm, q⟩
      | bor d => obtain ⟨b, e, r⟩ := z; exact ⟨b, e, r.congr hK hm⟩
  · rcases clean_get h1 with e | ⟨g1, _⟩
    · cases e
    · rcases clean_get h2 with e | ⟨g2, _⟩
      · cases e
      · exact S.inj j k d1 d2 a g1 g2 h3 h4
/-- a suite begins: the error lies in slot i -/
theorem SOk.caught {a : Addr} {oe : Obj} {x : Exc} {C : Addr} (S : SOk T ρ σ H Z) (hT : T.ex = none) (hT' : T'.ex = some (a, oe)) (hK : T.K = T'.K) (hm : T.mg = T'.mg) (hx : XSl T' Z x (some (some (.ref a)))) : SOk T' (ρ.set i (.exn x)) (σ.set i (some (.ref a))) H Z := by
  have own_in : ∀ {b : Addr}, OwnA (ρ.set i (.exn x)) (σ.set i (some (.ref a))) b → OwnA ρ σ b := fun {b} h => (own_set h).elim (fun ⟨_, e, _⟩ => by cases e) id
  have bor_in : ∀ {b : Addr}, BorA (ρ.set i (.exn x)) (σ.set i (some (.ref a))) b → BorA ρ σ b := fun {b} h => bor_set (fun _ z => by cases z) h
  refine ⟨by rw [List.length_set, List.length_set]; exact S.len, S.sub, fun j s hj => ?_, fun j k d1 d2 b h1 h2 h3 h4 => ?_, fun b h1 h2 => S.sep b (own_in h1) (bor_in h2)⟩
  · rcases set_get hj with ⟨rfl, rfl⟩ | ⟨n, hj'⟩
    · have hl : i < σ.length := by
        rcases Nat.lt_or_ge i ρ.length with h | h
        · rw [← S.len]; exact h
        · rw [List.getElem?_eq_none (by simpa using h)] at hj; cases hj
      rw [List.getElem?_set_self hl]; exact hx
    · rw [List.getElem?_set_ne n]
      have z := S.slot j s hj'
      cases s with
      | emp => trivial
      | exn y => obtain ⟨_, _, _, e, _⟩ := z; rw [hT] at e; cases e
      | val d => obtain ⟨v, e, r⟩ := z; exact ⟨v, e, r.congr hK hm⟩
      | own d => obtain ⟨b, e, r, q⟩ := z; exact ⟨b, e, r.congr hK hm, q⟩
      | bor d => obtain ⟨b, e, r⟩ := z; exact ⟨b, e, r.congr hK hm⟩
  · rcases set_get h1 with ⟨_, e⟩ | ⟨n1, h1⟩
    · cases e
    · rcases set_get h2 with ⟨_, e⟩ | ⟨n2, h2⟩
      · cases e
      · rw [List.getElem?_set_ne n1] at h3
        rw [List.getElem?_set_ne n2] at h4
        exact S.inj j k d1 d2 b h1 h2 h3 h4
theorem step_caught {s : Sl} {v : V} (nb : ∀ d, s ≠ .bor d) (hn : ∀ d, s ≠ .own d) : Step ρ σ H Z (ρ.set i s) (σ.set i (some v)) H Z := Step.store (T := ⟨[], fun _ => none, none⟩) nb hn
theorem step_gone : Step ρ σ H Z (ρ.set i .emp) (σ.set i none) H Z :=
  ⟨fun _ _ h _ => h, .refl _, fun _ _ h => .inl h, fun a ⟨j, d, h1, h2⟩ => by
    rcases set_get h1 with ⟨_, e⟩ | ⟨hj, e⟩
    · cases e
    · rw [List.getElem?_set_ne hj] at h2; exact .inl ⟨j, d, e, h2⟩, fun _ h => h, fun j d h => by
    rcases set_get h with ⟨_, e⟩ | ⟨hj, e⟩
    · cases e
    · exact ⟨e, by rw [List.getElem?_set_ne hj]⟩, fun j d h o => by
    rcases set_get h with ⟨_, e⟩ | ⟨hj, e⟩
    · cases e
    · exact ⟨⟨d, e, o⟩, by rw [List.getElem?_set_ne hj]⟩⟩
theorem step_clean : Step ρ σ H Z (CI.clean ρ) σ H Z :=
  ⟨fun _ _ h _ => h, .refl _, fun _ _ h => .inl h, fun a h => .inl (clean_own h), fun _ h => h, fun j d h => by
    rcases clean_get h with e | ⟨e, _⟩
    · cases e
    · exact ⟨e, rfl⟩, fun j d h o => by
    rcases clean_get h with e | ⟨e, _⟩
    · cases e
    · exact ⟨⟨d, e, o⟩, rfl⟩⟩
end
/-- which classes of the text are of the class c -/
def SubOk (X : Ev) (c : Value) (su : Str → Option Bool) : Prop := ∀ x C b, su x = some b → X.mg x = some (.ref C) → PySem.W.exmOne X.K (.ref C) c = some b
section
variable {X : Cx} {x n : Str} {c : Value} {i : Nat} {body suite : List Stmt} {b₀ : Stmt} {np pos pos' : Pos} {cb cs : Mn Fl} {su : Str → Option Bool}
theorem ss_try (hc : X.calm = true) (hs : X.stack = X.env :: X.outer) (hf : X.env.frame = some X.env.locals) (hN : X.N.Nodup) (hi : X.N[i]? = some n) (hln : X.env.kindOf n = some .local) (hcn : L2.Names X x c) (hsub : SubOk (ev X) c su)
    (hb : ∀ (pn : List (Addr × Obj)) (xe : Value → Shared → Prop), PassesOwn (model X.prog X.w) X.A X.env xe → SSs (X.tr pn xe) body cb)
    (hsu : ∀ (a : Addr) (oe : Obj) (pn : List (Addr × Obj)), SSs (X.suite a ((a, oe) :: pn)) (b₀ :: suite) cs) :
    SS X (.Try body [.ExceptHandler (some (.Name x np)) (some n) (b₀ :: suite) pos'] [] [] pos) (cTry cb su i cs) := by
  have ht := tx_calm hc
  refine ⟨fun W tk => psI (ps_try_as (i := i) (tb := fun W' => tS (tx X) W' cb) (ts := fun a cls d => fun Dn σ H => ∀ oe : Obj, Zc cls d oe → (∃ vs, oe.data = .fields vs) → tS ⟨X.K, X.mg, some (a, oe)⟩ WF cs Dn σ H) (Wout := W) hs hf hN hi hln hcn tk
    (fun W' pn xe tk' hp => ?_) (fun a oe cls d pn hz hd => ?_)) (tS_of fun ρ σ H Z Dn S p => ⟨ρ, Z, S, ?_⟩)⟩
  · have h := (hb pn xe hp).run W' tk'
    rw [tx_calm (X := X.tr pn xe) hc] at h
    rw [ht]
    exact h
  · exact pssI ((hsu a oe pn).run WF takes0) fun Dn σ H h => h oe hz hd
  · unfold cTry at p
    cases q : cb ρ with
    | stuck => rw [q] at p; exact p
    | ok f ρ' =>
      rw [q] at p
      cases f with
      | nx => exact p
      | brk => exact p
      | cnt => exact p
      | ret r => exact p
    | exc y ρ' =>
      rw [q] at p
      intro cls d σ' H' Z' S' E' x'
      obtain ⟨C, hm, rfl, hd⟩ := id x'
      simp only at p
      cases hsy : su y.1 with
      | none => rw [hsy] at p; exact p.elim
      | some b =>
        refine ⟨b, hsub y.1 C b hsy hm, fun hbt a ha oe hz hfl => ?_, fun hbf => ?_⟩
        · subst hbt
          rw [hsy] at p
          simp only at p
          obtain ⟨z1, z2⟩ := hz
          have hx : XSl ⟨X.K, X.mg, some (a, oe)⟩ Z' y (some (some (.ref a))) := ⟨a, oe, C, rfl, rfl, hm, z1, hfl, hd.elim (fun ⟨e1, e2⟩ => .inl ⟨e1, z2.trans e2⟩) fun ⟨n0, dd, gs, e1, e2, e3⟩ => .inr ⟨n0, dd, gs, z2.trans e1, e2, RepF.congr (T := tx X) (T' := ⟨X.K, X.mg, some (a, oe)⟩) rfl rfl e3⟩⟩
          have S2 := S'.caught (i := i) (T' := ⟨X.K, X.mg, some (a, oe)⟩) (C := C) (by rw [ht]) rfl rfl rfl hx
          refine ⟨_, Z', S2, ?_⟩
          have E2 : Step ρ σ H Z (ρ'.set i (.exn y)) (σ'.set i (some (.ref a))) H' Z' := E'.trans (step_caught (fun _ z => by cases z) fun _ z => by cases z)
          have fin : ∀ {ρ3 : En} {σ3 : L2.St} {H3 Z3 : Hp}, SOk ⟨X.K, X.mg, some (a, oe)⟩ ρ3 σ3 H3 Z3 → Step (ρ'.set i (.exn y)) (σ'.set i (some (.ref a))) H' Z' ρ3 σ3 H3 Z3 → SOk (tx X) ((CI.clean ρ3).set i .emp) (σ3.set i none) H3 Z3 ∧ Step ρ σ H Z ((CI.clean ρ3).set i .emp) (σ3.set i none) H3 Z3 := fun {ρ3 σ3 H3 Z3} S3 E3 =>
            ⟨(S3.clean (T' := tx X) rfl rfl).gone, (E2.trans E3).trans (step_clean.trans step_gone)⟩
          cases q2 : cs (ρ'.set i (.exn y)) with
          | stuck => rw [q2] at p; exact p
          | exc y2 ρ3 => rw [q2] at p; exact p.elim
          | ok f ρ3 =>
            rw [q2] at p
            cases f with
            | nx => exact fun σ3 H3 Z3 S3 E3 => p _ H3 Z3 (fin S3 E3).1 (fin S3 E3).2
            | brk => exact fun σ3 H3 Z3 S3 E3 => p _ H3 Z3 (fin S3 E3).1 (fin S3 E3).2
            | cnt => exact fun σ3 H3 Z3 S3 E3 => p _ H3 Z3 (fin S3 E3).1 (fin S3 E3).2
            | ret r => exact fun v σ3 H3 Z3 S3 E3 o3 => p v _ H3 Z3 (fin S3 E3).1 (fin S3 E3).2 (RetOk.congr (T := ⟨X.K, X.mg, some (a, oe)⟩) (T' := tx X) rfl rfl (o3.base E2))
        · subst hbf
          rw [hsy] at p
          exact p _ d σ' H' Z' S' E' x'
/-- isinstance(e, c) in a suite: what the classes of the text say -/
def IsEOk (E : Ev) (cv : Value) (su : Str → Option Bool) : Prop := ∀ x C b, su x = some b → E.mg x = some (.ref C) → L2.ExcC E.K C ∧ PySem.W.kitOne E.K (.ref C) cv = some b
theorem se_isE {a : Addr} {oe : Obj} {pn : List (Addr × Obj)} {cn : Str} {pe pc pp : Pos} {cv : Value} {vc : V} (hE : IsEOk (ev X) cv su) (hi : X.N[i]? = some n) (hv : Vis X.env.scope n) (hg : Gl X "isinstance") (hm : X.mg "isinstance" = none)
    (hc : PE (X.suite a ((a, oe) :: pn)) (.Name cn pc) (tC vc)) (hvc : ∀ u, RelV vc u → u = cv) (hd : (n == ("__debug__" : Str)) = false := by decide) (hcd : (n == ("__classdict__" : Str)) = false := by decide) :
    SE (X.suite a ((a, oe) :: pn)) (.Call (.Name "isinstance" pp) [.Name n pe, .Name cn pc] [] pos) (cIsE i su) :=
  ⟨fun W tk => ⟨fun pins s σ H Q I ⟨ρ, Z, S, p⟩ => by
    unfold cIsE at p
    cases q : ρ[i]? with
    | none => rw [q] at p; exact p.elim
    | some sl =>
      rw [q] at p
      cases sl with
      | exn y =>
        obtain ⟨a', oe', C, e1, e2, e3, e4, e5, e6⟩ := S.slot i _ q
        cases e1
        simp only at p
        split at p
        · rename_i b hy hb
          have hz : Zc (.ref C) none oe := ⟨e4, e6.elim (fun w => w.2) fun w => absurd hy w.1⟩
          obtain ⟨ex, hk⟩ := hE y.1 C b hb e3
          have R := pe_callB (X := X.suite a ((a, oe) :: pn)) (p := pp) (pos := pos) (x := "isinstance") (call_isE (X := X) (pn := pn) ex hz e5) hg hm (by decide +kernel) (pa_cons (pe_var (i := i) (x := n) (pos := pe) hi hv hd hcd) (pa_cons hc pa_nil (by rfl)) (by rfl)) (by decide) (by decide) (by rfl) (by rfl)
          refine R.run pins s σ H Q I ⟨_, e2, vc, cv, b, rfl, hvc, hk, ?_⟩
          exact Po.out (k := kE) (a := .val (.bl b)) p S rfl
        · exact p.elim
      | _ => exact p.elim⟩⟩
end
end CI
end
section
set_option maxRecDepth 100000
/-! CIZip: zip of a list or a tuple with a list or a tuple; enumerate of either. -/
namespace CI
open PySem PySem.Spec L2 PyProof.Rows
/-- a sequence: t says a tuple -/
def SqX (K : PySem.W.Frag) (H : Hp) (t : Bool) (a : Addr) (xs : List V) : Prop := match t with
  | true => SqT K H a xs
  | false => SqL K H a xs
def ItX (h : Heap) (t : Bool) (it a : Addr) (i : Nat) : Prop := match t with
  | true => h.IsTupleIter it a i
  | false => h.IsListIter it a i
def HasX (h : Heap) (t : Bool) (a : Addr) (xs : Array Value) : Prop := match t with
  | true => h.IsTuple a xs
  | false => h.IsList a xs
theorem ItX.at {h h' : Heap} {t : Bool} {it a : Addr} {i : Nat} (x : ItX h t it a i) (k : ∀ o, h.get? it = some o → h'.get? it = some o) : ItX h' t it a i := by
  cases t with
  | true => exact Heap.IsTupleIter.at x k
  | false => exact Heap.IsListIter.at x k
theorem ItX.obj {h : Heap} {t : Bool} {it a : Addr} {i : Nat} (x : ItX h t it a i) : ∃ o, h.get? it = some o ∧ ∀ v, o.data ≠ .cell v := by
  cases t with
  | true => obtain ⟨o, e, _, d⟩ := x; exact ⟨o, e, fun v q => by rw [d] at q; cases q⟩
  | false => obtain ⟨o, e, _, d⟩ := x; exact ⟨o, e, fun v q => by rw [d] at q; cases q⟩
theorem drawsX {prog : Program} {w : World} {A : Around} (hh : A.handled = none) (t : Bool) (it a : Addr) (hne : a ≠ it) (items : Array Value) :
    Draws prog w A it [it, a] items.size (fun i v => items[i]? = some v) (fun i h => ItX h t it a i ∧ HasX h t a items) := by
  cases t with
  | true => exact Draws.tuple hh it a hne items
  | false => exact Draws.list hh it a hne items
theorem Inv.seqX {X : Cx} {pins : List (Addr × Obj)} {σ : L2.St} {H : Hp} {s : Shared} {t : Bool} {a : Addr} {xs : List V} (I : Inv X pins σ H s) (h : SqX X.K H t a xs) : ∃ its, Vals xs its ∧ HasX s.heap t a its.toArray := by
  cases t with
  | true => obtain ⟨its, r, p, _⟩ := I.tuple h; exact ⟨its, r, p⟩
  | false => obtain ⟨its, r, p, _⟩ := I.list h; exact ⟨its, r, p.isList⟩
theorem HasX.lt {h : Heap} {t : Bool} {a : Addr} {xs : Array Value} (x : HasX h t a xs) : a < h.objs.size := by
  cases t with
  | true => obtain ⟨o, e, _⟩ := x; exact Heap.lt_size e
  | false => obtain ⟨o, e, _⟩ := x; exact Heap.lt_size e
theorem Inv.seqX_inj {X : Cx} {pins : List (Addr × Obj)} {σ : L2.St} {H : Hp} {s : Shared} {t : Bool} {a : Addr} {xs ys : List V} (I : Inv X pins σ H s) (h : SqX X.K H t a xs) (k : SqX X.K H t a ys) : xs = ys := by
  cases t with
  | true => exact I.tuple_inj h k
  | false => exact I.list_inj h k
def ItzX (K : PySem.W.Frag) (t1 t2 : Bool) (a b : Addr) : It :=
  ⟨fun i H => ∃ (xs ys : List V) (x y : V), SqX K H t1 a xs ∧ SqX K H t2 b ys ∧ xs[i]? = some x ∧ ys[i]? = some y,
    fun i H v H' => ∃ T x y, v = .ref T ∧ H T = none ∧ H' = upd H T (.tup [x, y]) ∧ (∀ xs, SqX K H t1 a xs → xs[i]? = some x) ∧ ∀ ys, SqX K H t2 b ys → ys[i]? = some y,
    fun i H => ∃ xs ys : List V, SqX K H t1 a xs ∧ SqX K H t2 b ys ∧ i ≤ xs.length ∧ i ≤ ys.length ∧ (i = xs.length ∨ i = ys.length)⟩
theorem sep2 {z TI TO i1 i2 a b : Addr} (D : ZipApart z TI TO i1 i2 a b) : ZipSep2 z TI TO i1 i2 [i1, a] [i2, b] where
  TIz := D.TIz
  TOz := D.TOz
  TITO := D.TITO
  TIi1 := D.TIi1
  mem1 := by simp
  zf1 := by simp [D.i1z.symm, D.l1z.symm]
  Tf1 := by simp [D.TOi1, D.l1TO.symm]
  TIi2 := D.TIi2
  mem2 := by simp
  zf2 := by simp [D.i2z.symm, D.l2z.symm]
  Tf2 := by simp [D.TOi2, D.l2TO.symm]
  sep1_2 := by simp [D.i12, D.l2i1.symm]
  sep2_1 := by simp [D.i12.symm, D.l1i2.symm]
theorem turn_zipX {P : Program} {w : World} {K : PySem.W.Frag} {elts : List Expr} {kk : Nat} {tpos : Pos} {t1 t2 : Bool} {a b z TI TO i1 i2 : Addr} (D : ZipApart z TI TO i1 i2 a b) :
    Turn P w K (.Tuple elts kk tpos) (ItzX K t1 t2 a b) [z, TI, TO, i1, i2] z (fun i h => IsZip h z TI TO .none ∧ IsTupOf2 h TI (.ref i1) (.ref i2) ∧ (∃ x y, IsTupOf2 h TO x y) ∧ ItX h t1 i1 a i ∧ ItX h t2 i2 b i) where
  mem := by simp
  obj := fun i h st c hc => by
    obtain ⟨hz, hTI, ⟨x, y, hTO⟩, h1, h2⟩ := st
    have e' : c = z ∨ c = TI ∨ c = TO ∨ c = i1 ∨ c = i2 := by simpa using hc
    rcases e' with q | q | q | q | q
    · rw [q]; exact ⟨_, hz, fun v q => nomatch q⟩
    · rw [q]; exact ⟨_, hTI, fun v q => nomatch q⟩
    · rw [q]; exact ⟨_, hTO, fun v q => nomatch q⟩
    · rw [q]; exact h1.obj
    · rw [q]; exact h2.obj
  keep := fun i h h' st k => by
    obtain ⟨hz, hTI, ⟨x, y, hTO⟩, h1, h2⟩ := st
    exact ⟨k z (by simp) _ hz, k TI (by simp) _ hTI, ⟨x, y, k TO (by simp) _ hTO⟩, h1.at fun o q => k i1 (by simp) o q, h2.at fun o q => k i2 (by simp) o q⟩
  item := by
    intro X hP hw hK hc i pins s σ H E I hf st hg
    subst hP hw hK
    obtain ⟨hz, hTI, ⟨x0, y0, hTO⟩, h1, h2⟩ := st
    obtain ⟨xs, ys, x, y, hqx, hqy, hx, hy⟩ := hg
    obtain ⟨its, rv, p⟩ := Inv.seqX I hqx
    obtain ⟨its2, rv2, p2⟩ := Inv.seqX I hqy
    obtain ⟨u, hu, ru⟩ := rv.get hx
    obtain ⟨u2, hu2, ru2⟩ := rv2.get hy
    have hzl : z < s.heap.objs.size := Heap.lt_size hz
    have hh : X.A.handled = none := I.ok.hd hc
    have lt1 : i < its.toArray.size := by
      have := (List.getElem?_eq_some_iff.mp hu).1; simpa using this
    have lt2 : i < its2.toArray.size := by
      have := (List.getElem?_eq_some_iff.mp hu2).1; simpa using this
    have hT : s.TypeIs (.ref z) "zip" := ⟨_, hz, rfl⟩
    have D1 := drawsX (prog := X.prog) (w := X.w) (A := X.A.in1) hh t1 i1 a D.l1i1 its.toArray
    have D2 := drawsX (prog := X.prog) (w := X.w) (A := X.A.in1) hh t2 i2 b D.l2i2 its2.toArray
    have main : wpAny (model X.prog X.w) X.A (pyNext (.ref z)) (fun r s1 => ∃ u, r = some u ∧ wpAny (model X.prog X.w) X.A (letOwnedTupleGo (.Tuple elts kk tpos) (.ref z) u) (fun _ s2 => ∃ x H', Inv X pins σ H' s2 ∧ RelV x u ∧ (ItzX X.K t1 t2 a b).yld i H x H' ∧
        (IsZip s2.heap z TI TO .none ∧ IsTupOf2 s2.heap TI (.ref i1) (.ref i2) ∧ (∃ x y, IsTupOf2 s2.heap TO x y) ∧ ItX s2.heap t1 i1 a (i + 1) ∧ ItX s2.heap t2 i2 b (i + 1)) ∧ ∀ b ∈ [z, TI, TO, i1, i2], H' b = none) E s1) E s := by
      unfold pyNext
      refine wpAny_bind (wpAny_attempt (wpAny_callSpecial?_slot (name := Str.ofString "__next__") hT F.slot_zip_next
        (wpAny_call_entry F.slot_zip_next hT F.entry_zip_next
          (zipD2_next_item (sep2 D) D1 D2 hz hTI hTO ⟨h1, p⟩ ⟨h2, p2⟩ lt1 lt2
            fun v1 v2 h' tk q1 q2 z' TO' h1' h2' hT hsz hk => wpAny_pure ?_) (F.args_zip_next_1 _))))
      have e1 : v1 = u := by
        have q1 : its.toArray[i]? = some v1 := q1
        rw [List.getElem?_toArray, hu] at q1; exact (Option.some.inj q1).symm
      have e2 : v2 = u2 := by
        have q2 : its2.toArray[i]? = some v2 := q2
        rw [List.getElem?_toArray, hu2] at q2; exact (Option.some.inj q2).symm
      subst e1 e2
      refine ⟨_, rfl, wpAny_letOwnedTupleGo_zip (s := { s with heap := h', toks := tk }) z' fun h'' z'' sb => ?_⟩
      have hT2 : h''.get? s.heap.objs.size = some { cls := .type "tuple", data := .seq #[v1, v2] } := (sb.2 _ (Nat.ne_of_gt hzl)).trans hT
      have new : ObjOk X.prog X.w (upd H s.heap.objs.size (.tup [x, y])) h'' s.heap.objs.size (.tup [x, y]) :=
        ⟨by show 2 ≤ sizeLine; decide, [v1, v2], .cons ru (.cons ru2 .nil), ⟨_, hT2, rfl, _, rfl⟩⟩
      have I1 : Inv X pins σ (upd H s.heap.objs.size (.tup [x, y])) { s with heap := h'', toks := tk } :=
        I.turnedNew (t' := tk) (ch := [z, TI, TO, i1, i2]) (fun c o hb q => (sb.2 c (fun q' => hb (by simp [q']))).trans (hk c o (fun q' => hb (by simp [q'])) (fun q' => hb (by simp [q'])) (fun q' => hb (by simp [q'])) (fun q' => hb (by simp [q'])) q)) hf (Nat.le_refl _) new
      refine ⟨.ref s.heap.objs.size, _, I1, rfl, ⟨_, x, y, rfl, I.hok.fresh (Nat.le_refl _), rfl, fun l hl => by rw [Inv.seqX_inj I hl hqx]; exact hx, fun l hl => by rw [Inv.seqX_inj I hl hqy]; exact hy⟩, ⟨z'', ?_, ⟨v1, v2, ?_⟩, ?_, ?_⟩, fun c hcm => ?_⟩
      · exact (sb.2 _ D.TIz).trans (hk _ _ D.TIz D.TITO D.TIi1 D.TIi2 hTI)
      · exact (sb.2 _ D.TOz).trans TO'
      · exact h1'.1.at fun o q => (sb.2 _ D.i1z).trans q
      · exact h2'.1.at fun o q => (sb.2 _ D.i2z).trans q
      · have hlt : c < s.heap.objs.size := by
          have e' : c = z ∨ c = TI ∨ c = TO ∨ c = i1 ∨ c = i2 := by simpa using hcm
          rcases e' with q | q | q | q | q
          · rw [q]; exact hzl
          · rw [q]; exact Heap.lt_size hTI
          · rw [q]; exact Heap.lt_size hTO
          · rw [q]; obtain ⟨_, e1, _⟩ := h1.obj; exact Heap.lt_size e1
          · rw [q]; obtain ⟨_, e2, _⟩ := h2.obj; exact Heap.lt_size e2
        rw [upd_ne (Nat.ne_of_lt hlt)]
        exact (hf c hcm).1
    exact main
  done := by
    intro X hP hw hK hc i pins s σ H E I hf st hg
    subst hP hw hK
    obtain ⟨hz, hTI, ⟨x0, y0, hTO⟩, h1, h2⟩ := st
    obtain ⟨xs, ys, hqx, hqy, l1, l2, hend⟩ := hg
    obtain ⟨its, rv, p⟩ := Inv.seqX I hqx
    obtain ⟨its2, rv2, p2⟩ := Inv.seqX I hqy
    have n1 := rv.length
    have n2 := rv2.length
    have hh : X.A.handled = none := I.ok.hd hc
    have hT : s.TypeIs (.ref z) "zip" := ⟨_, hz, rfl⟩
    have D1 := drawsX (prog := X.prog) (w := X.w) (A := X.A.in1) hh t1 i1 a D.l1i1 its.toArray
    have D2 := drawsX (prog := X.prog) (w := X.w) (A := X.A.in1) hh t2 i2 b D.l2i2 its2.toArray
    unfold pyNext
    refine wpAny_bind (wpAny_attempt (wpAny_callSpecial?_slot (name := Str.ofString "__next__") hT F.slot_zip_next
      (wpAny_call_entry F.slot_zip_next hT F.entry_zip_next
        (zipD2_next_end (i := i) (sep2 D) D1 D2 hz hTI hTO ⟨h1, p⟩ ⟨h2, p2⟩ (by simp; omega) (by simp; omega)
          (by rcases hend with q | q
              · exact .inl (by simp; omega)
              · exact .inr (by simp; omega))
          fun h' tk e hk he => ?_) (F.args_zip_next_1 _))))
    obtain ⟨o, ho, hc⟩ := he
    refine wpAny_bind (wpAny_isInstance (T := "StopIteration") (b := true) ⟨o, ho, hc⟩ isSubtype_stop ?_)
    exact wpAny_pure ⟨rfl, I.turnedL (t' := tk) (ch := [z, TI, TO, i1, i2]) (fun c o hb q =>
      hk c o (fun q' => hb (by simp [q'])) (fun q' => hb (by simp [q'])) (fun q' => hb (by simp [q'])) (fun q' => hb (by simp [q'])) q) hf⟩
  self := fun A i s Q E st h => wpAny_pyIter_zip st.1 h
def bX (t : Bool) : Obj := match t with
  | true => { cls := .type "tuple_iterator", data := .fields #[.none, .int 0 0] }
  | false => { cls := .type "list_iterator", data := .fields #[.none, .int 0 0] }
theorem beginsX (t : Bool) (a : Addr) (items : Array Value) : ∃ o : Obj, Begins (.ref a) o (fun h => HasX h t a items) ∧ ∀ (h : Heap) (it : Addr), h.get? it = some o → ItX h t it a 0 := by
  cases t with
  | true => exact ⟨_, begins_tuple a items, fun h it e => ⟨_, e, rfl, rfl⟩⟩
  | false => exact ⟨_, begins_list a items, fun h it e => ⟨_, e, rfl, rfl⟩⟩
def iZipX (K : PySem.W.Frag) (ta : TA) : TI := fun σ H R => ta σ H fun vs H1 => ∃ t1 t2 a b xs ys, vs = [.ref a, .ref b] ∧ SqX K H1 t1 a xs ∧ SqX K H1 t2 b ys ∧ R (ItzX K t1 t2 a b) H1
theorem pi_zipX {X : Cx} {e e2 : Expr} {ta : TA} {p pos tpos : Pos} {elts : List Expr} {kk : Nat} (hg : Gl X "zip") (hm : X.mg "zip" = none) (ha : PA X [e, e2] ta)
    (hs : starEach [e, e2] X.env = (false, eval e X.env) :: starEach [e2] X.env := by rfl) (hpl : (backTo pos (starEach [e2] X.env)).any (·.1) = false := by rfl) :
    PI X (.Tuple elts kk tpos) (.Call (.Name "zip" p) [e, e2] [] pos) (iZipX X.K ta) := by
  refine ⟨fun pins s σ H R I h => ?_⟩
  refine Call_ (ld_blt I hg hm PyProof.Rows.boot_zip (PyProof.Rows.callWith_type1 (thn (ha.run pos pins s σ H _ I h) fun us s1 ⟨vs, H1, I1, r1, q1⟩ => ?_) hs hpl))
  obtain ⟨t1, t2, a, b, xs, ys, ex, hqx, hqy, q⟩ := q1
  subst ex
  cases r1 with
  | cons r rr =>
    cases rr with
    | cons r' rr =>
      cases rr
      cases r
      cases r'
      have fresh5 : ∀ c, c ∈ [s1.heap.objs.size + 4, s1.heap.objs.size + 2, s1.heap.objs.size + 3, s1.heap.objs.size, s1.heap.objs.size + 1] → FpOk X pins H1 c := fun c hcm => by
        have hle : s1.heap.objs.size ≤ c := by
          have e' : c = s1.heap.objs.size + 4 ∨ c = s1.heap.objs.size + 2 ∨ c = s1.heap.objs.size + 3 ∨ c = s1.heap.objs.size ∨ c = s1.heap.objs.size + 1 := by simpa using hcm
          omega
        exact I1.fpOk hle (I1.hok.fresh hle)
      obtain ⟨its, rv, p1⟩ := Inv.seqX I1 hqx
      obtain ⟨its2, rv2, p2⟩ := Inv.seqX I1 hqy
      obtain ⟨o1, B1, g1⟩ := beginsX t1 a its.toArray
      obtain ⟨o2, B2, g2⟩ := beginsX t2 b its2.toArray
      refine zip_begins2 B1 B2 p1 p2 fun h' hz hTI hTO e1 e2 hsz hk => wpAny_pyIter_zip hz ?_
      have I2 : Inv X pins σ H1 { s1 with heap := h' } := I1.kept (t' := s1.toks) hk
      exact ⟨s1.heap.objs.size + 4, [s1.heap.objs.size + 4, s1.heap.objs.size + 2, s1.heap.objs.size + 3, s1.heap.objs.size, s1.heap.objs.size + 1], _, _, H1, rfl, I2, turn_zipX (PySem.W.ktu_apart s1.heap.objs.size a b p1.lt p2.lt), ⟨hz, hTI, ⟨_, _, hTO⟩, g1 _ _ e1, g2 _ _ e2⟩, fresh5, q⟩
end CI
end
section
set_option maxRecDepth 100000
/-! CIZipS: zip and enumerate as sources. -/
namespace CI
open PySem L2 PyProof.Rows
def unlent : Rv → Option D
  | .val d => some d
  | .own d => some d
  | .bor _ => none
/-- an argument that is walked: an expression, a name -/
def qE (c : Mn Rv) : Mn D := bnd c fun r => ofO (unlent r)
def qV (i : Nat) : Mn D := fun ρ => match ρ[i]? with
  | some (.val d) => .ok d ρ
  | some (.bor d) => .ok d ρ
  | _ => .stuck
def zipD : List D → List D → List D
  | a :: as, b :: bs => .tup [a, b] :: zipD as bs
  | _, _ => []
def enumD : Nat → List D → List D
  | _, [] => []
  | n, a :: as => .tup [.int (n : Int), a] :: enumD (n + 1) as
def zipO (x y : D) : Option (List D) := match seqD x, seqD y with
  | some xs, some ys => some (zipD xs ys)
  | _, _ => none
def enumO : D → Option (List D)
  | .lst xs => some (enumD 0 xs)
  | _ => none
def ciZip (a b : Mn D) : Mn (List D) := bnd (cCons a (cCons b cNil)) fun ds => match ds with
  | [x, y] => ofO (zipO x y)
  | _ => stk
def ciEnum (a : Mn D) : Mn (List D) := bnd (cCons a cNil) fun ds => match ds with
  | [x] => ofO (enumO x)
  | _ => stk
theorem zipD_len : ∀ (xs ys : List D), (zipD xs ys).length = min xs.length ys.length
  | [], ys => by simp [zipD]
  | _ :: _, [] => by simp [zipD]
  | _ :: xs, _ :: ys => by simp [zipD, zipD_len xs ys]
theorem zipD_get : ∀ {xs ys : List D} {i : Nat} {d : D}, (zipD xs ys)[i]? = some d → ∃ a b, xs[i]? = some a ∧ ys[i]? = some b ∧ d = .tup [a, b]
  | [], ys, i, d, h => by simp [zipD] at h
  | _ :: _, [], i, d, h => by simp [zipD] at h
  | a :: xs, b :: ys, 0, d, h => by simp [zipD] at h; exact ⟨a, b, by simp, by simp, h.symm⟩
  | a :: xs, b :: ys, i + 1, d, h => by
    have h : (zipD xs ys)[i]? = some d := by simpa [zipD] using h
    obtain ⟨u, v, h1, h2, h3⟩ := zipD_get h
    exact ⟨u, v, by simpa using h1, by simpa using h2, h3⟩
theorem enumD_len : ∀ (n : Nat) (xs : List D), (enumD n xs).length = xs.length
  | _, [] => rfl
  | n, _ :: xs => by simp [enumD, enumD_len (n + 1) xs]
theorem enumD_get : ∀ {xs : List D} {n i : Nat} {d : D}, (enumD n xs)[i]? = some d → ∃ a, xs[i]? = some a ∧ d = .tup [.int ((n + i : Nat) : Int), a]
  | [], n, i, d, h => by simp [enumD] at h
  | a :: xs, n, 0, d, h => by simp [enumD] at h; exact ⟨a, by simp, by simpa using h.symm⟩
  | a :: xs, n, i + 1, d, h => by
    have h : (enumD (n + 1) xs)[i]? = some d := by simpa [enumD] using h
    obtain ⟨u, h1, h2⟩ := enumD_get h
    exact ⟨u, by simpa using h1, by rw [h2]; congr 4; omega⟩
def QOk (T : Tx) (G : Addr → Prop) (ρ : En) (σ : L2.St) (H Z : Hp) (v : V) (d : D) : Prop := RdOk T H Z v d ∧ ∀ a ds, d = .lst ds → v = .ref a → ¬ OwnA ρ σ a ∧ G a
def QsOk (T : Tx) (G : Addr → Prop) (ρ : En) (σ : L2.St) (H Z : Hp) : List V → List D → Prop
  | [], [] => True
  | v :: vs, d :: ds => QOk T G ρ σ H Z v d ∧ QsOk T G ρ σ H Z vs ds
  | _, _ => False
def kQ : Kd D V := ⟨fun T ρ σ H ρ' H' Z' v d => QOk T (From ρ σ H Z') ρ' σ H' Z' v d, fun s h => ⟨h.1, fun a ds e1 e2 => ⟨(h.2 a ds e1 e2).1, (h.2 a ds e1 e2).2.base s.step⟩⟩⟩
theorem QsOk.imp {T : Tx} {G G' : Addr → Prop} {ρ : En} {σ : L2.St} {H Z : Hp} (k : ∀ a, G a → G' a) : ∀ {vs : List V} {ds : List D}, QsOk T G ρ σ H Z vs ds → QsOk T G' ρ σ H Z vs ds
  | [], [], _ => trivial
  | _ :: _, _ :: _, h => ⟨⟨h.1.1, fun a ds e1 e2 => ⟨(h.1.2 a ds e1 e2).1, k a (h.1.2 a ds e1 e2).2⟩⟩, QsOk.imp k h.2⟩
  | [], _ :: _, h => h.elim
  | _ :: _, [], h => h.elim
def kQs : Kd (List D) (List V) := ⟨fun T ρ σ H ρ' H' Z' vs ds => QsOk T (From ρ σ H Z') ρ' σ H' Z' vs ds, fun s h => QsOk.imp (fun a q => q.base s.step) h⟩
theorem QOk.mono {T : Tx} {ρ0 ρ ρ1 : En} {σ : L2.St} {H0 H H1 Z Z1 : Hp} {v : V} {d : D} (h : QOk T (From ρ0 σ H0 Z) ρ σ H Z v d) (E : EStep ρ σ H Z ρ1 H1 Z1) : QOk T (From ρ0 σ H0 Z1) ρ1 σ H1 Z1 v d :=
  ⟨h.1.mono E.same E.step.le, fun a ds ed e => ⟨fun q => (h.2 a ds ed e).1 (E.ownE a q), (h.2 a ds ed e).2.elim .inl fun q => q.elim (fun ⟨o, z⟩ => .inr (.inl ⟨o, E.step.le a o z⟩)) fun z => .inr (.inr z)⟩⟩
section
variable {α β γ δ : Type} {T : Tx} {ρ0 ρ ρ1 : En} {σ : L2.St} {H0 H H1 Z0 Z Z1 : Hp} {W : WX}
/-- .. as seen from an earlier state -/
def PoB (k : Kd α β) (T : Tx) (ρ0 : En) (H0 : Hp) (ρ : En) (σ : L2.St) (H Z : Hp) (o : Out α) (W : WX) (Q : β → Hp → Prop) : Prop := match o with
  | .ok a ρ' => ∀ b H' Z', SOk T ρ' σ H' Z' → EStep ρ σ H Z ρ' H' Z' → k.ok T ρ0 σ H0 ρ' H' Z' b a → Q b H'
  | .exc x ρ' => ∀ cls d H' Z', SOk T ρ' σ H' Z' → EStep ρ σ H Z ρ' H' Z' → XOk T Z' x cls d → W cls d σ H'
  | .stuck => False
theorem Po.b {k : Kd α β} {o : Out α} {Q : β → Hp → Prop} (h : Po k T ρ σ H Z o W Q) : PoB k T ρ H ρ σ H Z o W Q := h
theorem PoB.bnd {k1 : Kd α β} {k2 : Kd γ δ} {m : Mn α} {f : α → Mn γ} {Q : δ → Hp → Prop} {R : β → Hp → Prop} (h : PoB k2 T ρ0 H0 ρ σ H Z (bnd m f ρ) W Q) (s0 : EStep ρ0 σ H0 Z0 ρ H Z)
    (hk : ∀ r b ρ1 H1 Z1, SOk T ρ1 σ H1 Z1 → EStep ρ σ H Z ρ1 H1 Z1 → k1.ok T ρ0 σ H0 ρ1 H1 Z1 b r → PoB k2 T ρ0 H0 ρ1 σ H1 Z1 (f r ρ1) W Q → R b H1) : Po k1 T ρ σ H Z (m ρ) W R := by
  unfold CI.bnd at h
  cases e : m ρ with
  | ok a ρ' =>
    rw [e] at h
    intro b H' Z' S E q
    refine hk a b ρ' H' Z' S E (k1.base s0 q) ?_
    simp only at h
    cases e2 : f a ρ' with
    | ok c ρ2 => rw [e2] at h; exact fun b2 H2 Z2 S2 E2 q2 => h b2 H2 Z2 S2 (E.trans E2) q2
    | exc x ρ2 => rw [e2] at h; exact fun cls d H2 Z2 S2 E2 q2 => h cls d H2 Z2 S2 (E.trans E2) q2
    | stuck => rw [e2] at h; exact h
  | exc x ρ' => rw [e] at h; exact h
  | stuck => rw [e] at h; exact h
theorem PoB.out {k : Kd α β} {a : α} {b : β} {Q : β → Hp → Prop} (h : PoB k T ρ0 H0 ρ σ H Z (ret a ρ) W Q) (S : SOk T ρ σ H Z) (q : k.ok T ρ0 σ H0 ρ H Z b a) : Q b H := h b H Z S (.refl _ _ _ _) q
theorem PoB.ofO {k : Kd α β} {o : Option α} {Q : β → Hp → Prop} (h : PoB k T ρ0 H0 ρ σ H Z (CI.ofO o ρ) W Q) : ∃ a, o = some a ∧ PoB k T ρ0 H0 ρ σ H Z (ret a ρ) W Q := by
  cases o with
  | none => exact h.elim
  | some a => exact ⟨a, rfl, h⟩
end
structure SQ (X : Cx) (e : Expr) (c : Mn D) : Prop where
  run : ∀ W, Takes X W → PE X e (tK kQ (tx X) W c)
structure SQs (X : Cx) (es : List Expr) (c : Mn (List D)) : Prop where
  run : ∀ W, Takes X W → PA X es (tK kQs (tx X) W c)
section
variable {X : Cx} {a b e : Expr} {es : List Expr} {c : Mn Rv} {ca cb : Mn D} {cs : Mn (List D)} {i : Nat} {x : Str} {p pos tpos : Pos}
theorem sq_e (h : SE X e c) : SQ X e (qE c) := by
  refine ⟨fun W tk => peI (h.run W tk) fun σ H Q ⟨ρ, Z, S, p⟩ => ⟨ρ, Z, S, ?_⟩⟩
  unfold qE CI.bnd at p
  cases q : c ρ with
  | stuck => rw [q] at p; exact p
  | exc x ρ' => rw [q] at p; exact p
  | ok r ρ' =>
    rw [q] at p
    cases r with
    | bor d => exact p.elim
    | val d =>
      intro v H' Z' S' E' o'
      refine p v H' Z' S' E' ⟨.inl o', fun a ds ed ev => ?_⟩
      subst ed
      obtain ⟨b, vs, e1, q1, _⟩ := (show Rep (tx X) Z' (.lst ds) v from o')
      cases e1
      cases ev
      exact ⟨rep_notOwn S' q1, .inr (.inl (rd_some q1))⟩
    | own d =>
      intro v H' Z' S' E' o'
      refine p v H' Z' S' E' ⟨RvOk.read (r := .own d) o', fun a ds ed ev => ?_⟩
      obtain ⟨a', ea, r, z, n, n1, n2, n3⟩ := o'
      subst ea
      cases ev
      exact ⟨n1, .inl n⟩
theorem sq_v (hN : X.N[i]? = some x) (hv : Vis X.env.scope x) (hd : (x == ("__debug__" : Str)) = false := by decide) (hcd : (x == ("__classdict__" : Str)) = false := by decide) : SQ X (.Name x pos) (qV i) := by
  refine ⟨fun W tk => peI (pe_var hN hv hd hcd) (tE_of fun ρ σ H Z Q S p => ?_)⟩
  unfold qV at p
  cases q : ρ[i]? with
  | none => rw [q] at p; exact p.elim
  | some s =>
    have z := S.slotAt q
    rw [q] at p
    cases s with
    | emp => exact p.elim
    | exn _ => exact p.elim
    | own d => exact p.elim
    | val d =>
      obtain ⟨v, ev, r⟩ := z
      refine ⟨v, ev, Po.out (k := kQ) (a := d) p S ⟨.inl r, fun a ds ed ev => ?_⟩⟩
      subst ed
      obtain ⟨b, vs, e1, q1, _⟩ := r
      cases e1
      cases ev
      exact ⟨rep_notOwn S q1, .inr (.inl (rd_some q1))⟩
    | bor d =>
      obtain ⟨a, ev, r⟩ := z
      exact ⟨_, ev, Po.out (k := kQ) (a := d) p S ⟨.inr ⟨a, rfl, r⟩, fun a' ds ed ea => by cases ea; exact ⟨fun w => S.sep a w ⟨i, _, q, ev⟩, .inr (.inr ⟨i, _, q, ev⟩)⟩⟩⟩
theorem sqs_nil : SQs X [] cNil := ⟨fun W tk => paI pa_nil (tE_of fun ρ σ H Z Q S p => Po.out (k := kQs) (b := []) (a := []) p S trivial)⟩
theorem sqs_cons (ha : SQ X a ca) (hr : SQs X es cs) (hs : starEach (a :: es) X.env = (false, eval a X.env) :: starEach es X.env := by rfl) : SQs X (a :: es) (cCons ca cs) :=
  ⟨fun W tk => paI (pa_cons (ha.run W tk) (hr.run W tk) hs) (tE_of fun ρ σ H Z Q S p => ⟨ρ, Z, S, PoB.bnd (k1 := kQ) (Po.b p) (.refl ρ σ H Z) fun r v ρ1 H1 Z1 S1 E1 o1 p1 =>
    ⟨ρ1, Z1, S1, PoB.bnd (k1 := kQs) p1 E1 fun rs vs ρ2 H2 Z2 S2 E2 o2 p2 => PoB.out (k := kQs) (b := v :: vs) (a := r :: rs) p2 S2 ⟨QOk.mono o1 E2, o2⟩⟩⟩)⟩
/-- how a walked argument stands -/
theorem qOk_seq {T : Tx} {G : Addr → Prop} {ρ : En} {σ : L2.St} {H Z : Hp} {v : V} {d : D} {ds : List D} (S : SOk T ρ σ H Z) (h : QOk T G ρ σ H Z v d) (e : seqD d = some ds) : ∃ (t : Bool) (a : Addr) (vs : List V) (P : List Addr), v = .ref a ∧ Reps T Z ds vs ∧ (∀ b ∈ P, (∃ o, H b = some o) ∧ ¬ OwnA ρ σ b ∧ G b) ∧
    ∀ H1 Z1, (∀ b ∈ P, H1 b = H b) → Le Z Z1 → Le Z1 H1 → SqX T.K H1 t a vs := by
  cases d with
  | tup xs =>
    cases e
    obtain ⟨a, vs, ev, q, r⟩ := h.1.elim id fun ⟨_, _, z⟩ => z.elim
    exact ⟨true, a, vs, [], ev, r, fun b hb => by simp at hb, fun H1 Z1 _ h2 h3 => h3.sqT (h2.sqT q)⟩
  | lst xs =>
    cases e
    obtain ⟨a, vs, ev, q, r⟩ := rd_lst S.sub h.1
    refine ⟨false, a, vs, [a], ev, r, fun b hb => ?_, fun H1 Z1 h1 h2 h3 => ?_⟩
    · obtain rfl : b = a := by simpa using hb
      exact ⟨q.elim (fun e => ⟨_, e⟩) fun ⟨_, e⟩ => ⟨_, e⟩, h.2 b _ rfl ev⟩
    · have e := h1 a (by simp)
      exact .inl (q.elim (fun q => .inl (e.trans q)) fun ⟨o, q⟩ => .inr ⟨o, e.trans q⟩)
  | _ => cases e
theorem si_zip {elts : List Expr} {kk : Nat} (hg : Gl X "zip") (hm : X.mg "zip" = none) (ha : SQ X a ca) (hb : SQ X b cb) (hs : starEach [a, b] X.env = (false, eval a X.env) :: starEach [b] X.env := by rfl) (hs2 : starEach [b] X.env = (false, eval b X.env) :: starEach [] X.env := by rfl) (hpl : (backTo pos (starEach [b] X.env)).any (·.1) = false := by rfl) :
    SI X (.Tuple elts kk tpos) (.Call (.Name "zip" p) [a, b] [] pos) (ciZip ca cb) :=
  ⟨fun W tk => piI (pi_zipX hg hm ((sqs_cons ha (sqs_cons hb sqs_nil hs2) hs).run W tk) hs hpl) fun σ H R ⟨ρ, Z, S, p⟩ => ⟨ρ, Z, S, PoB.bnd (k1 := kQs) (Po.b p) (.refl ρ σ H Z) fun rs vs ρ1 H1 Z1 S1 E1 o1 p1 => by
    match rs, vs, o1, p1 with
    | [x, y], [v, w], o1, p1 =>
      obtain ⟨ds, e, p2⟩ := PoB.ofO p1
      unfold zipO at e
      split at e
      · rename_i xs ys hx hy
        cases e
        obtain ⟨t1, a1, vs1, P1, rfl, r1, k1, s1⟩ := qOk_seq S1 o1.1 hx
        obtain ⟨t2, a2, vs2, P2, rfl, r2, k2, s2⟩ := qOk_seq S1 o1.2.1 hy
        refine ⟨t1, t2, a1, a2, vs1, vs2, rfl, s1 H1 Z1 (fun _ _ => rfl) (.refl _) S1.sub, s2 H1 Z1 (fun _ _ => rfl) (.refl _) S1.sub, p2 _ H1 Z1 S1 (.refl _ _ _ _) ⟨P1 ++ P2, fun b hb => ?_, fun H2 Z2 h1 h2 h3 => ?_⟩⟩
        · rcases List.mem_append.mp hb with q | q
          · exact k1 b q
          · exact k2 b q
        · have q1 := s1 H2 Z2 (fun b hb => h1 b (List.mem_append_left _ hb)) h2 h3
          have q2 := s2 H2 Z2 (fun b hb => h1 b (List.mem_append_right _ hb)) h2 h3
          have l1 := r1.length
          have l2 := r2.length
          refine ⟨⟨vs1, vs2, q1, q2, by rw [zipD_len]; omega, by rw [zipD_len]; omega, by rw [zipD_len]; omega⟩, fun i d hd => ?_⟩
          obtain ⟨d1, d2, g1, g2, rfl⟩ := zipD_get hd
          obtain ⟨v1, e1, rp1⟩ := r1.get g1
          obtain ⟨v2, e2, rp2⟩ := r2.get g2
          refine ⟨⟨vs1, vs2, v1, v2, q1, q2, e1, e2⟩, fun x H3 ⟨Tp, x1, x2, ex, hT, eH, hx1, hx2⟩ => ?_⟩
          subst ex eH
          have n1 := hx1 vs1 q1
          have n2 := hx2 vs2 q2
          rw [e1] at n1
          rw [e2] at n2
          cases n1
          cases n2
          have zT : Z2 Tp = none := by
            cases ez : Z2 Tp with
            | none => rfl
            | some o => rw [h3 _ _ ez] at hT; cases hT
          refine ⟨upd_le hT, upd Z2 Tp (.tup [v1, v2]), upd_le zT, fun b u e => ?_, fun b u e => ?_, Tp, [v1, v2], rfl, .of upd_same, v1, [v2], rfl, (rp1.mono h2).mono (upd_le zT), v2, [], rfl, (rp2.mono h2).mono (upd_le zT), rfl⟩
          · by_cases hb : b = Tp
            · subst hb; rw [upd_same] at e ⊢; exact e
            · rw [upd_ne hb] at e ⊢; exact h3 _ _ e
          · by_cases hb : b = Tp
            · subst hb; exact .inr hT
            · rw [upd_ne hb] at e; exact .inl e
      · cases e
    | [], [], _, p1 => exact p1.elim
    | [_], [_], _, p1 => exact p1.elim
    | _ :: _ :: _ :: _, _, _, p1 => exact p1.elim⟩⟩
theorem si_enum {elts : List Expr} {kk : Nat} (hg : Gl X "enumerate") (hm : X.mg "enumerate" = none) (ha : SQ X a ca) (hs : starEach [a] X.env = [(false, eval a X.env)] := by rfl) :
    SI X (.Tuple elts kk tpos) (.Call (.Name "enumerate" p) [a] [] pos) (ciEnum ca) :=
  ⟨fun W tk => piI (pi_enum hg hm ((sqs_cons ha sqs_nil hs).run W tk) hs) fun σ H R ⟨ρ, Z, S, p⟩ => ⟨ρ, Z, S, PoB.bnd (k1 := kQs) (Po.b p) (.refl ρ σ H Z) fun rs vs ρ1 H1 Z1 S1 E1 o1 p1 => by
    match rs, vs, o1, p1 with
    | [x], [v], o1, p1 =>
      obtain ⟨ds, e, p2⟩ := PoB.ofO p1
      unfold enumO at e
      split at e
      · rename_i xs
        cases e
        obtain ⟨a1, vs1, rfl, qr, r1⟩ := rd_lst S1.sub o1.1.1
        have hn := o1.1.2 a1 _ rfl rfl
        refine ⟨a1, vs1, rfl, .inl qr, p2 _ H1 Z1 S1 (.refl _ _ _ _) ⟨[a1], fun b hb => ?_, fun H2 Z2 h1 h2 h3 => ?_⟩⟩
        · obtain rfl : b = a1 := by simpa using hb
          exact ⟨qr.elim (fun e => ⟨_, e⟩) fun ⟨_, e⟩ => ⟨_, e⟩, hn⟩
        · have e := h1 a1 (by simp)
          have q1 : SqL (tx X).K H2 a1 vs1 := .inl (qr.elim (fun q => .inl (e.trans q)) fun ⟨o, q⟩ => .inr ⟨o, e.trans q⟩)
          have l1 := r1.length
          refine ⟨⟨vs1, q1, by rw [enumD_len]; omega⟩, fun i d hd => ?_⟩
          obtain ⟨d1, g1, rfl⟩ := enumD_get hd
          obtain ⟨v1, e1, rp1⟩ := r1.get g1
          refine ⟨⟨vs1, v1, q1, e1⟩, fun x H3 ⟨Tp, x1, ex, hT, eH, hx1⟩ => ?_⟩
          subst ex eH
          have n1 := hx1 vs1 q1
          rw [e1] at n1
          cases n1
          have zT : Z2 Tp = none := by
            cases ez : Z2 Tp with
            | none => rfl
            | some o => rw [h3 _ _ ez] at hT; cases hT
          refine ⟨upd_le hT, upd Z2 Tp (.tup [.int (i : Nat), v1]), upd_le zT, fun b u e => ?_, fun b u e => ?_, Tp, [.int (i : Nat), v1], rfl, .of upd_same, .int (i : Nat), [v1], rfl, by rw [Nat.zero_add]; rfl, v1, [], rfl, (rp1.mono h2).mono (upd_le zT), rfl⟩
          · by_cases hb : b = Tp
            · subst hb; rw [upd_same] at e ⊢; exact e
            · rw [upd_ne hb] at e ⊢; exact h3 _ _ e
          · by_cases hb : b = Tp
            · subst hb; exact .inr hT
            · rw [upd_ne hb] at e; exact .inl e
      · cases e
    | [], [], _, p1 => exact p1.elim
    | _ :: _ :: _, _, _, p1 => exact p1.elim⟩⟩
end
end CI
end
section
set_option maxRecDepth 100000
/-! CIBlt: calls of built-in functions and types; f-strings; methods of texts. -/
namespace CI
open PySem L2 PyProof.Rows
def cBlt (f : List D → Option Rv) (cs : Mn (List Rv)) : Mn Rv := bnd cs fun rs => ofO (f (rs.map Rv.d))
def uD (g : D → Option Rv) : List D → Option Rv
  | [a] => g a
  | _ => none
def bD (g : D → D → Option Rv) : List D → Option Rv
  | [a, b] => g a b
  | _ => none
structure FitsC (X : Cx) (r : List V → Hp → VK → Prop) (f : List D → Option Rv) : Prop where
  run : ∀ ρ σ H Z vs rs rv Q, SOk (tx X) ρ σ H Z → ArgsOk (tx X) H Z vs rs → f (rs.map Rv.d) = some rv →
    (∀ v H' Z', SOk (tx X) ρ σ H' Z' → EStep ρ σ H Z ρ H' Z' → RvOk (tx X) ρ σ H ρ H' Z' v rv → Q v H') → r vs H Q
section
variable {X : Cx} {e o : Expr} {es : List Expr} {c co ce : Mn Rv} {cs : Mn (List Rv)} {p pos apos : Pos} {x : Str} {r : List V → Hp → VK → Prop} {f : List D → Option Rv} {id T : String}
theorem FitsC.un {g : D → Option Rv} (h : ∀ ρ σ H Z d x rv (Q : VK), SOk (tx X) ρ σ H Z → RdOk (tx X) H Z x d → g d = some rv →
    (∀ v H' Z', SOk (tx X) ρ σ H' Z' → EStep ρ σ H Z ρ H' Z' → RvOk (tx X) ρ σ H ρ H' Z' v rv → Q v H') → r [x] H Q) : FitsC X r (uD g) := by
  refine ⟨fun ρ σ H Z vs rs rv Q S a e k => ?_⟩
  match vs, rs, a with
  | [v], [q], a => exact h _ _ _ _ _ _ _ _ S (arg_rd a.1) e k
  | [], [], _ => cases e
  | _ :: _ :: _, _ :: _ :: _, _ => cases e
theorem FitsC.uI {g : D → Option Rv} (h : ∀ d rv x H Z, g d = some rv → Le Z H → RdOk (tx X) H Z x d → ∃ d', rv = .val d' ∧ ∃ v, (∀ T Z, Rep T Z d' v) ∧ ∀ Q : VK, Q v H → r [x] H Q) : FitsC X r (uD g) :=
  FitsC.un fun ρ σ H Z d x rv Q S h1 e k => by
    obtain ⟨d', rfl, v, q, w⟩ := h _ _ _ _ _ e S.sub h1
    exact w Q (k _ _ _ S (.refl _ _ _ _) (q _ _))
theorem FitsC.bi {g : D → D → Option Rv} (h : ∀ ρ σ H Z d d2 x y rv (Q : VK), SOk (tx X) ρ σ H Z → RdOk (tx X) H Z x d → RdOk (tx X) H Z y d2 → g d d2 = some rv →
    (∀ v H' Z', SOk (tx X) ρ σ H' Z' → EStep ρ σ H Z ρ H' Z' → RvOk (tx X) ρ σ H ρ H' Z' v rv → Q v H') → r [x, y] H Q) : FitsC X r (bD g) := by
  refine ⟨fun ρ σ H Z vs rs rv Q S a e k => ?_⟩
  match vs, rs, a with
  | [v, w], [q, q2], a => exact h _ _ _ _ _ _ _ _ _ _ S (arg_rd a.1) (arg_rd a.2.1) e k
  | [], [], _ => cases e
  | [_], [_], _ => cases e
  | _ :: _ :: _ :: _, _ :: _ :: _ :: _, _ => cases e
theorem blt_ok {W : WX} (hf : FitsC X r f) : ∀ σ H Q, tK kE (tx X) W (cBlt f cs) σ H Q → tCB r (tK kA (tx X) W cs) σ H Q := tE_of fun ρ σ H Z Q S p => ⟨ρ, Z, S, p.bnd (k1 := kA) fun rs vs ρ1 H1 Z1 S1 E1 o1 p1 => by
  obtain ⟨rv, e, p2⟩ := Po.ofO p1
  exact hf.run _ _ _ _ _ _ _ _ S1 o1 e fun v H' Z' S' E' o' => p2 v H' Z' S' E' o'⟩
theorem se_blt (hc : CallR X (.builtin id) r) (hf : FitsC X r f) (hg : Gl X x) (hm : X.mg x = none) (hv : bootBuiltins x = some (.builtin id)) (ha : SA X (e :: es) cs) (hn : x ≠ "__name__" := by decide) (hdb : (x == ("__debug__" : Str)) = false := by decide)
    (he : starEach (e :: es) X.env = (false, eval e X.env) :: starEach es X.env := by rfl) (hpl : (backTo pos (starEach es X.env)).any (·.1) = false := by rfl) : SE X (.Call (.Name x p) (e :: es) [] pos) (cBlt f cs) :=
  ⟨fun W tk => peI (pe_callB hc hg hm hv (ha.run W tk) hn hdb he hpl) (blt_ok hf)⟩
theorem se_bltT (hc : CallR X (.type T) r) (hf : FitsC X r f) (hg : Gl X x) (hm : X.mg x = none) (hv : bootBuiltins x = some (.type T)) (ha : SA X (e :: es) cs) (hn : x ≠ "__name__" := by decide) (hdb : (x == ("__debug__" : Str)) = false := by decide)
    (he : starEach (e :: es) X.env = (false, eval e X.env) :: starEach es X.env := by rfl) (hpl : (backTo pos (starEach es X.env)).any (·.1) = false := by rfl) : SE X (.Call (.Name x p) (e :: es) [] pos) (cBlt f cs) :=
  ⟨fun W tk => peI (pe_callTy hc hg hm hv (ha.run W tk) hn hdb he hpl) (blt_ok hf)⟩
/-! values -/
def gAbs : D → Option Rv
  | .int i => vI (if i < 0 then -i else i)
  | _ => none
def gMax2 : D → D → Option Rv
  | .int i, .int j => vI (if j > i then j else i)
  | _, _ => none
def gMin2 : D → D → Option Rv
  | .int i, .int j => vI (if j < i then j else i)
  | _, _ => none
def gInt : D → Option Rv
  | .int i => vI i
  | .bl b => vI (if b then 1 else 0)
  | .str x => if x.length ≤ 640 then (PySem.intText? x).bind vI else none
  | _ => none
def gBool : D → Option Rv
  | .int i => vB (i != 0)
  | .bl b => vB b
  | .lst xs => vB (!xs.isEmpty)
  | _ => none
def gStr : D → Option Rv
  | .int i => if i.natAbs.log2 < 1920 then vS (toString i) else none
  | .str x => vS x
  | _ => none
def gLen : D → Option Rv
  | .str x => if sz x.length then vI (x.length : Int) else none
  | .lst xs => vI (xs.length : Int)
  | .tup xs => vI (xs.length : Int)
  | _ => none
def gList : D → Option Rv
  | .lst xs => some (.own (.lst xs))
  | .tup xs => some (.own (.lst xs))
  | _ => none
def gTuple : D → Option Rv
  | .lst xs => some (.val (.tup xs))
  | .tup xs => some (.val (.tup xs))
  | _ => none
def intsD : List D → Option (List Int)
  | [] => some []
  | .int i :: ds => (intsD ds).map (i :: ·)
  | _ => none
def strsD : List D → Option (List Str)
  | [] => some []
  | .str i :: ds => (strsD ds).map (i :: ·)
  | _ => none
def lstD : D → Option (List D)
  | .lst ds => some ds
  | _ => none
def gSum (d : D) : Option Rv := ((lstD d).bind intsD).bind fun ns => vI ns.sum
def topI : Int → List Int → Int
  | m, [] => m
  | m, n :: ns => topI (if n > m then n else m) ns
def lowI : Int → List Int → Int
  | m, [] => m
  | m, n :: ns => lowI (if n < m then n else m) ns
def gMaxL (d : D) : Option Rv := ((lstD d).bind intsD).bind fun ns => match ns with
  | [] => none
  | n :: r => vI (topI n r)
def gMinL (d : D) : Option Rv := ((lstD d).bind intsD).bind fun ns => match ns with
  | [] => none
  | n :: r => vI (lowI n r)
theorem fits_abs : FitsC X (fun xs H Q => ∃ i, xs = [.int i] ∧ Q (.int (if i < 0 then -i else i)) H) (uD gAbs) := FitsC.uI fun d rv x H Z e s h => by
  unfold gAbs at e
  split at e
  · cases e; exact ⟨_, rfl, _, fun _ _ => rfl, fun Q q => ⟨_, by rw [rd_int h], q⟩⟩
  · cases e
theorem fits_max2 : FitsC X (fun xs H Q => ∃ i j, xs = [.int i, .int j] ∧ Q (.int (if j > i then j else i)) H) (bD gMax2) := FitsC.bi fun ρ σ H Z dx dy x y rv Q S h1 h2 e k => by
  unfold gMax2 at e
  split at e
  · cases e; exact ⟨_, _, by rw [rd_int h1, rd_int h2], k _ _ _ S (.refl _ _ _ _) rfl⟩
  · cases e
theorem fits_min2 : FitsC X (fun xs H Q => ∃ i j, xs = [.int i, .int j] ∧ Q (.int (if j < i then j else i)) H) (bD gMin2) := FitsC.bi fun ρ σ H Z dx dy x y rv Q S h1 h2 e k => by
  unfold gMin2 at e
  split at e
  · cases e; exact ⟨_, _, by rw [rd_int h1, rd_int h2], k _ _ _ S (.refl _ _ _ _) rfl⟩
  · cases e
def rInt : List V → Hp → VK → Prop := fun xs H Q => ((∃ i, xs = [.int i] ∧ Q (.int i) H) ∨ ∃ k, xs = [.bl k] ∧ Q (.int (if k then 1 else 0)) H) ∨ ∃ a n, xs = [.str a] ∧ PySem.intText? a = some n ∧ a.length ≤ 640 ∧ Q (.int n) H
theorem call_intA : CallR X (.type "int") rInt := CallR.or call_int1 call_int_str
theorem fits_int : FitsC X rInt (uD gInt) := FitsC.uI fun d rv x H Z e s h => by
  unfold gInt at e
  split at e
  · cases e; exact ⟨_, rfl, _, fun _ _ => rfl, fun Q q => .inl (.inl ⟨_, by rw [rd_int h], q⟩)⟩
  · cases e; exact ⟨_, rfl, _, fun _ _ => rfl, fun Q q => .inl (.inr ⟨_, by rw [rd_bl h], q⟩)⟩
  · rename_i y
    split at e
    · rename_i hl
      cases ht : PySem.intText? y with
      | none => rw [ht] at e; cases e
      | some n =>
        rw [ht] at e
        cases e
        exact ⟨_, rfl, _, fun _ _ => rfl, fun Q q => .inr ⟨_, n, by rw [rd_str h], ht, hl, q⟩⟩
    · cases e
  · cases e
def rBool (K : PySem.W.Frag) : List V → Hp → VK → Prop := fun xs H Q => ((∃ i, xs = [.int i] ∧ Q (.bl (i != 0)) H) ∨ ∃ k, xs = [.bl k] ∧ Q (.bl k) H) ∨ ∃ (a : Addr) (zs : List V), xs = [.ref a] ∧ SqL K H a zs ∧ Q (.bl (!zs.isEmpty)) H
theorem call_boolA : CallR X (.type "bool") (rBool X.K) := CallR.or call_bool1 call_boolL
theorem fits_bool : FitsC X (rBool X.K) (uD gBool) := FitsC.uI fun d rv x H Z e s h => by
  unfold gBool at e
  split at e
  · cases e; exact ⟨_, rfl, _, fun _ _ => rfl, fun Q q => .inl (.inl ⟨_, by rw [rd_int h], q⟩)⟩
  · cases e; exact ⟨_, rfl, _, fun _ _ => rfl, fun Q q => .inl (.inr ⟨_, by rw [rd_bl h], q⟩)⟩
  · rename_i xs
    cases e
    obtain ⟨a, vs, rfl, q1, r1⟩ := rd_lst s h
    have := r1.length
    refine ⟨_, rfl, .bl (!xs.isEmpty), fun _ _ => rfl, fun Q q => .inr ⟨a, vs, rfl, .inl q1, ?_⟩⟩
    have e : vs.isEmpty = xs.isEmpty := by cases xs <;> cases vs <;> first | rfl | simp at this
    rw [e]; exact q
  · cases e
def rStr : List V → Hp → VK → Prop := fun xs H Q => (∃ i, xs = [.int i] ∧ i.natAbs.log2 < 1920 ∧ Q (.str (toString i)) H) ∨ ∃ a, xs = [.str a] ∧ Q (.str a) H
theorem call_strA : CallR X (.type "str") rStr := CallR.or call_str_int SkE.call_str_str
theorem fits_str : FitsC X rStr (uD gStr) := FitsC.uI fun d rv x H Z e s h => by
  unfold gStr at e
  split at e
  · split at e
    · rename_i hl
      cases e; exact ⟨_, rfl, _, fun _ _ => rfl, fun Q q => .inl ⟨_, by rw [rd_int h], hl, q⟩⟩
    · cases e
  · cases e; exact ⟨_, rfl, _, fun _ _ => rfl, fun Q q => .inr ⟨_, by rw [rd_str h], q⟩⟩
  · cases e
theorem fits_len : FitsC X (fun xs H Q => ∃ x n, xs = [x] ∧ LenV X.K x H n ∧ Q (.int (n : Nat)) H) (uD gLen) := FitsC.uI fun d rv x H Z e s h => by
  unfold gLen at e
  split at e
  · split at e
    · rename_i hz
      cases e; exact ⟨_, rfl, _, fun _ _ => rfl, fun Q q => ⟨_, _, rfl, by rw [rd_str h]; exact ⟨of_decide_eq_true hz, rfl⟩, q⟩⟩
    · cases e
  · cases e
    obtain ⟨a, vs, rfl, q1, r1⟩ := rd_lst s h
    exact ⟨_, rfl, _, fun _ _ => rfl, fun Q q => ⟨_, _, rfl, .inl ⟨vs, .inl q1, r1.length⟩, q⟩⟩
  · cases e
    obtain ⟨a, vs, rfl, q1, r1⟩ := rd_tup s h
    exact ⟨_, rfl, _, fun _ _ => rfl, fun Q q => ⟨_, _, rfl, .inr ⟨vs, q1, r1.length⟩, q⟩⟩
  · cases e
theorem fits_list : FitsC X (fun xs H Q => ∃ p ys, xs = [.ref p] ∧ (SqL X.K H p ys ∨ SqT X.K H p ys) ∧ ∀ l, H l = none → Q (.ref l) (upd H l (.lst ys))) (uD gList) := FitsC.un fun ρ σ H Z d x rv Q S h e k => by
  unfold gList at e
  split at e
  · cases e
    obtain ⟨a, vs, rfl, q1, r1⟩ := rd_lst S.sub h
    exact ⟨a, vs, rfl, .inl (.inl q1), fun l hl => k _ _ _ (S.new hl) (EStep.new hl) (rv_lst S hl r1)⟩
  · cases e
    obtain ⟨a, vs, rfl, q1, r1⟩ := rd_tup S.sub h
    exact ⟨a, vs, rfl, .inr q1, fun l hl => k _ _ _ (S.new hl) (EStep.new hl) (rv_lst S hl r1)⟩
  · cases e
theorem fits_tuple : FitsC X (fun xs H Q => ∃ p ys, xs = [.ref p] ∧ ((SqL X.K H p ys ∧ ∀ l, H l = none → Q (.ref l) (upd H l (.tup ys))) ∨ (SqT X.K H p ys ∧ Q (.ref p) H))) (uD gTuple) := FitsC.un fun ρ σ H Z d x rv Q S h e k => by
  unfold gTuple at e
  split at e
  · cases e
    obtain ⟨a, vs, rfl, q1, r1⟩ := rd_lst S.sub h
    exact ⟨a, vs, rfl, .inl ⟨.inl q1, fun l hl => k _ _ _ (S.newZ hl) (EStep.newZ S hl) (rv_tup S hl r1)⟩⟩
  · cases e
    have h0 := h.elim id fun ⟨_, _, z⟩ => z.elim
    obtain ⟨a, vs, rfl, q1, r1⟩ := rd_tup S.sub h
    exact ⟨a, vs, rfl, .inr ⟨q1, k _ _ _ S (.refl _ _ _ _) h0⟩⟩
  · cases e
theorem ints_rep {T : Tx} {Z : Hp} : ∀ {ds : List D} {vs : List V} {ns : List Int}, Reps T Z ds vs → intsD ds = some ns → vs = ns.map V.int
  | [], vs, ns, r, e => by cases e; exact r
  | d :: ds, _, ns, ⟨v, r, ev, q, s⟩, e => by
    unfold intsD at e
    split at e
    · rename_i e0; cases e0
    · rename_i i ds' e0
      cases e0
      cases h : intsD ds with
      | none => rw [h] at e; cases e
      | some ms => rw [h] at e; cases e; subst ev; rw [show v = .int _ from q, ints_rep s h]; rfl
    · cases e
theorem strs_rep {T : Tx} {Z : Hp} : ∀ {ds : List D} {vs : List V} {ns : List Str}, Reps T Z ds vs → strsD ds = some ns → vs = ns.map V.str
  | [], vs, ns, r, e => by cases e; exact r
  | d :: ds, _, ns, ⟨v, r, ev, q, s⟩, e => by
    unfold strsD at e
    split at e
    · rename_i e0; cases e0
    · rename_i i ds' e0
      cases e0
      cases h : strsD ds with
      | none => rw [h] at e; cases e
      | some ms => rw [h] at e; cases e; subst ev; rw [show v = .str _ from q, strs_rep s h]; rfl
    · cases e
theorem reps_ints {T : Tx} {Z : Hp} : ∀ (ns : List Int), Reps T Z (ns.map D.int) (ns.map V.int)
  | [] => rfl
  | n :: ns => ⟨.int n, _, rfl, rfl, reps_ints ns⟩
theorem lst_ints {H Z : Hp} {x : V} {d : D} {ns : List Int} (s : Le Z H) (h : RdOk (tx X) H Z x d) (e : (lstD d).bind intsD = some ns) : ∃ a, x = .ref a ∧ SqL X.K H a (ns.map V.int) := by
  cases d with
  | lst ds =>
    obtain ⟨a, vs, rfl, q1, r1⟩ := rd_lst s h
    have e : intsD ds = some ns := e
    exact ⟨a, rfl, .inl (by rw [← ints_rep r1 e]; exact q1)⟩
  | _ => cases e
theorem fits_sum : FitsC X (rSum X.K) (uD gSum) := FitsC.uI fun d rv x H Z e s h => by
  unfold gSum at e
  cases hn : (lstD d).bind intsD with
  | none => rw [hn] at e; cases e
  | some ns =>
    rw [hn] at e; cases e
    obtain ⟨a, rfl, q1⟩ := lst_ints s h hn
    exact ⟨_, rfl, _, fun _ _ => rfl, fun Q q => ⟨a, ns, rfl, q1, q⟩⟩
theorem topI_spec : ∀ (ns : List Int) (m : Int), topI m ns ∈ m :: ns ∧ ∀ y ∈ m :: ns, y ≤ topI m ns
  | [], m => ⟨by simp [topI], fun y hy => by simp at hy; subst hy; exact Int.le_refl _⟩
  | n :: ns, m => by
    obtain ⟨h1, h2⟩ := topI_spec ns (if n > m then n else m)
    unfold topI
    refine ⟨?_, fun y hy => ?_⟩
    · rcases List.mem_cons.mp h1 with h | h
      · rw [h]; split <;> simp
      · simp [h]
    · have h3 := h2 _ List.mem_cons_self
      rcases List.mem_cons.mp hy with rfl | hy
      · refine Int.le_trans ?_ h3; split <;> omega
      · rcases List.mem_cons.mp hy with rfl | hy
        · refine Int.le_trans ?_ h3; split <;> omega
        · exact h2 y (by simp [hy])
theorem lowI_spec : ∀ (ns : List Int) (m : Int), lowI m ns ∈ m :: ns ∧ ∀ y ∈ m :: ns, lowI m ns ≤ y
  | [], m => ⟨by simp [lowI], fun y hy => by simp at hy; subst hy; exact Int.le_refl _⟩
  | n :: ns, m => by
    obtain ⟨h1, h2⟩ := lowI_spec ns (if n < m then n else m)
    unfold lowI
    refine ⟨?_, fun y hy => ?_⟩
    · rcases List.mem_cons.mp h1 with h | h
      · rw [h]; split <;> simp
      · simp [h]
    · have h3 := h2 _ List.mem_cons_self
      rcases List.mem_cons.mp hy with rfl | hy
      · refine Int.le_trans h3 ?_; split <;> omega
      · rcases List.mem_cons.mp hy with rfl | hy
        · refine Int.le_trans h3 ?_; split <;> omega
        · exact h2 y (by simp [hy])
theorem fits_maxL : FitsC X (rMax X.K) (uD gMaxL) := FitsC.uI fun d rv x H Z e s h => by
  unfold gMaxL at e
  cases hn : (lstD d).bind intsD with
  | none => rw [hn] at e; cases e
  | some ns =>
    rw [hn] at e
    cases ns with
    | nil => cases e
    | cons n r =>
      cases e
      obtain ⟨a, rfl, q1⟩ := lst_ints s h hn
      obtain ⟨t1, t2⟩ := topI_spec r n
      refine ⟨_, rfl, _, fun _ _ => rfl, fun Q q => ⟨a, n :: r, rfl, q1, by simp, fun m hm hx => ?_⟩⟩
      have := hx _ t1
      have := t2 _ hm
      have e : m = topI n r := by omega
      rw [e]; exact q
theorem fits_minL : FitsC X (rMin X.K) (uD gMinL) := FitsC.uI fun d rv x H Z e s h => by
  unfold gMinL at e
  cases hn : (lstD d).bind intsD with
  | none => rw [hn] at e; cases e
  | some ns =>
    rw [hn] at e
    cases ns with
    | nil => cases e
    | cons n r =>
      cases e
      obtain ⟨a, rfl, q1⟩ := lst_ints s h hn
      obtain ⟨t1, t2⟩ := lowI_spec r n
      refine ⟨_, rfl, _, fun _ _ => rfl, fun Q q => ⟨a, n :: r, rfl, q1, by simp, fun m hm hx => ?_⟩⟩
      have := hx _ t1
      have := t2 _ hm
      have e : m = lowI n r := by omega
      rw [e]; exact q
/-! isinstance, a built-in type -/
def tyD : D → Option String
  | .non => some "NoneType"
  | .bl _ => some "bool"
  | .int _ => some "int"
  | .str _ => some "str"
  | .tup _ => some "tuple"
  | .lst _ => some "list"
  | .dic _ => some "dict"
  | _ => none
def gIsi (T : String) (d : D) : Option Rv := (tyD d).bind fun t => (kitB t T).bind vB
theorem ty_rd {H Z : Hp} {v : V} {d : D} {t : String} (s : Le Z H) (h : RdOk (tx X) H Z v d) (e : tyD d = some t) : TyX X.K H v (.type t) := by
  cases d with
  | non => cases e; rw [rd_non h]; exact .base .non
  | bl b => cases e; rw [rd_bl h]; exact .base (.bl b)
  | int i => cases e; rw [rd_int h]; exact .base (.int i)
  | str i => cases e; rw [rd_str h]; exact .base (.str i)
  | tup ds =>
    cases e
    obtain ⟨a, vs, rfl, q, r⟩ := rd_tup s h
    rcases q with (q | ⟨o, q⟩) | ⟨o, its, n, q, q2, _⟩
    · exact .base (.tup q)
    · exact .fTuple q
    · exact .kTuple q q2
  | lst ds =>
    cases e
    obtain ⟨a, vs, rfl, q, r⟩ := rd_lst s h
    rcases q with q | ⟨o, q⟩
    · exact .base (.lst q)
    · exact .base (.frz q)
  | dic ds =>
    cases e
    rcases h with ⟨a, rfl, es, q, r⟩ | ⟨a, rfl, es, q, r⟩
    · exact .base (.dK (s _ _ q))
    · exact .base (.dK q)
  | obj _ _ => cases e
  | glo _ => cases e
theorem se_isi {y : Str} {q : Pos} (h : SE X e c) (hg : Gl X "isinstance") (hm : X.mg "isinstance" = none) (hgy : Gl X y) (hmy : X.mg y = none) (hvy : bootBuiltins y = some (.type T)) (hn : y ≠ "__name__" := by decide) (hdb : (y == ("__debug__" : Str)) = false := by decide)
    (hs : starEach [e, .Name y q] X.env = (false, eval e X.env) :: starEach [.Name y q] X.env := by rfl) (hs2 : starEach [.Name y q] X.env = (false, eval (.Name y q) X.env) :: starEach [] X.env := by rfl) (hpl : (backTo pos (starEach [.Name y q] X.env)).any (·.1) = false := by rfl) :
    SE X (.Call (.Name "isinstance" p) [e, .Name y q] [] pos) (cUn (gIsi T) c) :=
  ⟨fun W tk => peI (pe_callB call_isi hg hm PyProof.Rows.boot_isinstance (pa_cons (h.run W tk) (pa_cons (pe_bltn (v := V.ty T) hgy hmy hvy (show RelV (V.ty T) (.type T) from rfl) hn hdb) pa_nil hs2) hs) (by decide) (by decide) hs hpl) (tE_of fun ρ σ H Z Q S p => by
    unfold cUn cR at p
    rw [bnd_assoc] at p
    refine ⟨ρ, Z, S, p.bnd (k1 := kE) fun r v ρ1 H1 Z1 S1 E1 o1 p1 => ?_⟩
    obtain ⟨rv, e, p2⟩ := Po.ofO p1
    unfold gIsi at e
    cases ht : tyD r.d with
    | none => rw [ht] at e; cases e
    | some t =>
      rw [ht] at e
      simp only [Option.bind_some] at e
      cases hk : kitB t T with
      | none => rw [hk] at e; cases e
      | some b =>
        rw [hk] at e; cases e
        exact ⟨v, .ty T, .type t, .type T, b, rfl, .ty T, ty_rd (X := X) S1.sub (RvOk.read o1) ht, kit_ty hk, p2 (.bl b) H1 Z1 S1 (.refl _ _ _ _) rfl⟩)⟩
/-! f-strings -/
def kS : Kd Str V := ⟨fun _ _ _ _ _ _ _ v y => v = .str y, fun _ h => h⟩
def fmtD : D → Option Str
  | .str y => if sz y.length then some y else none
  | .int i => if i.natAbs.log2 < 1920 then some (toString i) else none
  | _ => none
def strD : D → Option Str
  | .str y => some y
  | _ => none
def cFmt (c : Mn Rv) : Mn Str := bnd c fun r => ofO (fmtD r.d)
def cTxt (c : Mn Rv) : Mn Str := bnd c fun r => ofO (strD r.d)
def cJs : List (Mn Str) → Str → Mn Str
  | [], acc => ret acc
  | t :: ts, acc => bnd t fun y => if sz (acc ++ y).length = true then cJs ts (acc ++ y) else stk
def cFStr (ts : List (Mn Str)) : Mn Rv := bnd (cJs ts Str.empty) fun y => ret (.val (.str y))
structure SJ (X : Cx) (es : List Expr) (ts : List (Mn Str)) : Prop where
  run : ∀ W, Takes X W → PJ X es (ts.map fun t => fun σ H Q => tK kS (tx X) W t σ H Q)
theorem sj_nil : SJ X [] [] := ⟨fun W tk => .nil⟩
theorem sj_fmt {ts : List (Mn Str)} (h : SE X e c) (hr : SJ X es ts) : SJ X (.FormattedValue e (-1) none pos :: es) (cFmt c :: ts) :=
  ⟨fun W tk => .cons (peI (pe_fmt (h.run W tk)) (tE_of fun ρ σ H Z Q S p => ⟨ρ, Z, S, p.bnd (k1 := kE) fun r v ρ1 H1 Z1 S1 E1 o1 p1 => by
    obtain ⟨y, e, p2⟩ := Po.ofO p1
    have rd := RvOk.read o1
    generalize r.d = d at e rd
    cases d with
    | str z =>
      simp only [fmtD] at e
      split at e
      · rename_i hz
        cases e
        exact .inl ⟨_, rd_str rd, of_decide_eq_true hz, Po.out (k := kS) p2 S1 rfl⟩
      · cases e
    | int i =>
      simp only [fmtD] at e
      split at e
      · rename_i hz
        cases e
        exact .inr ⟨i, rd_int rd, hz, Po.out (k := kS) p2 S1 rfl⟩
      · cases e
    | _ => cases e⟩)) (hr.run W tk)⟩
theorem sj_txt {ts : List (Mn Str)} (h : SE X e c) (hr : SJ X es ts) : SJ X (e :: es) (cTxt c :: ts) :=
  ⟨fun W tk => .cons (peI (h.run W tk) (tE_of fun ρ σ H Z Q S p => ⟨ρ, Z, S, p.bnd (k1 := kE) fun r v ρ1 H1 Z1 S1 E1 o1 p1 => by
    obtain ⟨y, e, p2⟩ := Po.ofO p1
    have rd := RvOk.read o1
    generalize r.d = d at e rd
    cases d with
    | str z =>
      cases e
      exact Po.out (k := kS) p2 S1 (rd_str rd)
    | _ => cases e⟩)) (hr.run W tk)⟩
theorem js_ok {W : WX} {σ : L2.St} {Q : Str → Hp → Prop} : ∀ (ts : List (Mn Str)) (acc : Str) (ρ : En) (H Z : Hp), SOk (tx X) ρ σ H Z → Po (⟨fun _ _ _ _ _ _ _ v y => v = y, fun _ h => h⟩ : Kd Str Str) (tx X) ρ σ H Z (cJs ts acc ρ) W Q →
    tJs (ts.map fun t => fun σ H Q => tK kS (tx X) W t σ H Q) acc σ H Q
  | [], acc, ρ, H, Z, S, p => Po.out (k := (⟨fun _ _ _ _ _ _ _ v y => v = y, fun _ h => h⟩ : Kd Str Str)) p S rfl
  | t :: ts, acc, ρ, H, Z, S, p => ⟨ρ, Z, S, p.bnd (k1 := kS) fun y v ρ1 H1 Z1 S1 E1 o1 p1 => by
    by_cases hz : sz (acc ++ y).length = true
    · rw [if_pos hz] at p1
      exact ⟨y, o1, of_decide_eq_true hz, js_ok ts _ ρ1 H1 Z1 S1 p1⟩
    · rw [if_neg hz] at p1; exact p1.elim⟩
theorem se_fstr {v1 v2 : Expr} {rest : List Expr} {ts : List (Mn Str)} (h : SJ X (v1 :: v2 :: rest) ts) : SE X (.JoinedStr (v1 :: v2 :: rest) pos) (cFStr ts) :=
  ⟨fun W tk => peI (pe_joined (h.run W tk)) (tE_of fun ρ σ H Z Q S p => js_ok ts Str.empty ρ H Z S (p.bnd (k1 := (⟨fun _ _ _ _ _ _ _ v y => v = y, fun _ h => h⟩ : Kd Str Str)) fun y v ρ1 H1 Z1 S1 E1 o1 p1 => by
    cases o1
    exact Po.out (k := kE) (a := .val (.str y)) p1 S1 rfl))⟩
theorem se_fstr1 (h : SE X (.FormattedValue e (-1) none p) c) : SE X (.JoinedStr [.FormattedValue e (-1) none p] pos) c := ⟨fun W tk => pe_joined1 (h.run W tk)⟩
/-! methods of texts, one argument -/
def isStr : D → Bool
  | .str _ => true
  | _ => false
def cM1 (f : D → D → Option Rv) (co ce : Mn Rv) : Mn Rv := bnd co fun a => if isStr a.d = true then bnd ce fun b => ofO (f a.d b.d) else stk
theorem m1_ok {W : WX} {r : V → List V → Hp → VK → Prop} {f : D → D → Option Rv} (hf : Fits2 X (fun x y H Q => r x [y] H Q) f) : ∀ σ H Q, tK kE (tx X) W (cM1 f co ce) σ H Q → tM1 r (tK kE (tx X) W co) (tK kE (tx X) W ce) σ H Q := tE_of fun ρ σ H Z Q S p => ⟨ρ, Z, S, p.bnd (k1 := kE) fun rx vx ρ1 H1 Z1 S1 E1 o1 p1 => by
  by_cases hs : isStr rx.d = true
  · rw [if_pos hs] at p1
    have rd := RvOk.read o1
    refine ⟨?_, ρ1, Z1, S1, p1.bnd (k1 := kE) fun ry vy ρ2 H2 Z2 S2 E2 o2 p2 => ?_⟩
    · cases hd : rx.d with
      | str y => rw [hd] at rd; exact ⟨y, rd_str rd⟩
      | _ => rw [hd] at hs; cases hs
    · obtain ⟨rv, e, p5⟩ := p2.ofO
      exact hf S2 (rd.mono E2.same E2.step.le) (RvOk.read o2) e fun v H' Z' S' E' o' => p5 v H' Z' S' E' o'
  · rw [if_neg hs] at p1; exact p1.elim⟩
def joinD : D → D → Option Rv
  | .str a, d => ((seqD d).bind strsD).bind fun ys => if (ys.map (·.length)).sum + ys.length * a.length ≤ 16777216 then vS (Txt.join a ys) else none
  | _, _ => none
theorem fits_join : Fits2 X (fun x y H Q => ∃ a p, ∃ ys : List Str, x = .str a ∧ [y] = [.ref p] ∧ (SqL X.K H p (ys.map V.str) ∨ SqT X.K H p (ys.map V.str)) ∧ (ys.map (·.length)).sum + ys.length * a.length ≤ 16777216 ∧ Q (.str (Txt.join a ys)) H) joinD := by
  intro ρ σ H Z dx dy x y rv Q S h1 h2 e k
  cases dx with
  | str a =>
    simp only [joinD] at e
    cases hq : (seqD dy).bind strsD with
    | none => rw [hq] at e; cases e
    | some ys =>
      rw [hq] at e
      simp only [Option.bind_some] at e
      split at e
      · rename_i hz
        cases e
        cases dy with
        | lst ds =>
          obtain ⟨p, vs, rfl, q1, r1⟩ := rd_lst S.sub h2
          have hq : strsD ds = some ys := hq
          exact ⟨a, p, ys, rd_str h1, rfl, .inl (.inl (by rw [← strs_rep r1 hq]; exact q1)), hz, k _ _ _ S (.refl _ _ _ _) rfl⟩
        | tup ds =>
          obtain ⟨p, vs, rfl, q1, r1⟩ := rd_tup S.sub h2
          have hq : strsD ds = some ys := hq
          exact ⟨a, p, ys, rd_str h1, rfl, .inr (by rw [← strs_rep r1 hq]; exact q1), hz, k _ _ _ S (.refl _ _ _ _) rfl⟩
        | _ => cases hq
      · cases e
  | _ => cases e
theorem se_join (ho : SE X o co) (he : SE X e ce) (hs : starEach [e] X.env = [(false, eval e X.env)] := by rfl) (hbase : attributeBase o "join" X.env (eval o X.env) = eval o X.env := by rfl) (hline : (apos.endLine == pos.line) = true := by rfl) :
    SE X (.Call (.Attribute o "join" apos) [e] [] pos) (cM1 joinD co ce) := ⟨fun W tk => peI (pe_join (ho.run W tk) (he.run W tk) hs hbase hline) (m1_ok fits_join)⟩
/-! what is not served -/
theorem se_stk : SE X e (stk : Mn Rv) := ⟨fun W tk => ⟨fun pins s σ H Q I ⟨ρ, Z, S, p⟩ => p.elim⟩⟩
theorem ss_stk {st : Stmt} : SS X st (stk : Mn Fl) := ⟨fun W tk => ⟨fun pins s σ H D I ⟨ρ, Z, S, p⟩ => p.elim⟩⟩
theorem st_stk : STt X e (stk : Mn Bool) := ⟨fun W tk => ⟨fun pins s σ H Q I ⟨ρ, Z, S, p⟩ => p.elim⟩⟩
end
end CI
end
section
set_option maxRecDepth 100000
/-! CILc2: list comprehensions of two clauses. -/
namespace CI
open PySem L2 PyProof.Rows
def lcL2 (t : Tn) (cond : Mn Bool) (it1 : Mn (List D)) (t1 : Tn) (cond1 : Mn Bool) (elt : Mn Rv) (vs vs1 : List Nat) : List D → List D → En → Option (List D × En)
  | [], acc, ρ => some (acc, ρ)
  | d :: ds, acc, ρ => (setTn t d ρ).bind fun ρ1 => match cond ρ1 with
    | .ok false ρ2 => lcL2 t cond it1 t1 cond1 elt vs vs1 ds acc (wipeE ρ2 vs)
    | .ok true ρ2 => (match it1 ρ2 with
      | .ok es ρ3 => (lcL t1 cond1 elt vs1 es acc (wipeE ρ3 vs1)).bind fun q => lcL2 t cond it1 t1 cond1 elt vs vs1 ds q.1 (wipeE q.2 vs)
      | _ => none)
    | _ => none
def cLc2 (it : Mn (List D)) (t : Tn) (cond : Mn Bool) (it1 : Mn (List D)) (t1 : Tn) (cond1 : Mn Bool) (elt : Mn Rv) (vs vs1 : List Nat) : Mn Rv := bnd it fun ds ρ =>
  if okOwn ρ vs && t.ix.all (fun i => vs.contains i) && t1.ix.all (fun i => vs1.contains i) && vs1.all (fun i => vs.contains i) then (match lcL2 t cond it1 t1 cond1 elt vs vs1 ds [] (wipeE ρ vs) with
    | some q => .ok (.own (.lst q.1)) (restE ρ q.2 vs)
    | none => .stuck) else .stuck
/-- what holds meanwhile: Dp the new list, σc the slots now -/
structure GInv (T : Tx) (ρ0 : En) (σ : L2.St) (H1 Z1 : Hp) (Dp : Addr) (acc : List D) (ρ : En) (σc : L2.St) (H Z : Hp) : Prop where
  S : SOk T ρ σc H Z
  new : H1 Dp = none
  vals : ∃ ws, H Dp = some (.lst ws) ∧ Reps T Z acc ws
  zD : Z Dp = none
  same : Le H1 H
  le : Le Z1 Z
  grow : ∀ a o, Z a = some o → Z1 a = some o ∨ H1 a = none ∨ OwnA ρ0 σ a
  own : ∀ a, OwnA ρ σc a → OwnA ρ0 σ a
  bor : ∀ (j : Nat) (d : D), ρ[j]? = some (.bor d) → ρ0[j]? = some (.bor d) ∧ σc[j]? = σ[j]?
  obj : ∀ (j : Nat) (d : D), ρ[j]? = some (.own d) → isObj d = true → ∃ d0, ρ0[j]? = some (.own d0) ∧ isObj d0 = true
  len : ρ.length = ρ0.length
section
variable {T : Tx} {ρ0 ρ ρ' : En} {σ σc σ' : L2.St} {H1 Z1 H Z H' Z' : Hp} {Dp : Addr} {acc : List D} {vs : List Nat}
theorem GInv.notOwn (L : GInv T ρ0 σ H1 Z1 Dp acc ρ σc H Z) (S0 : SOk T ρ0 σ H1 Z1) : ¬ OwnA ρ σc Dp := fun q => S0.notOwn L.new (L.own _ q)
theorem GInv.notBor (L : GInv T ρ0 σ H1 Z1 Dp acc ρ σc H Z) (S0 : SOk T ρ0 σ H1 Z1) : ¬ BorA ρ σc Dp := fun ⟨j, d, h1, h2⟩ => S0.notBor L.new ⟨j, d, (L.bor j d h1).1, by rw [← (L.bor j d h1).2]; exact h2⟩
theorem GInv.step (L : GInv T ρ0 σ H1 Z1 Dp acc ρ σc H Z) (S0 : SOk T ρ0 σ H1 Z1) (S' : SOk T ρ' σ' H' Z') (E : Step ρ σc H Z ρ' σ' H' Z') (l : Le H H') (ho : ∀ a, OwnA ρ' σ' a → OwnA ρ σc a) (hl : ρ'.length = ρ.length) : GInv T ρ0 σ H1 Z1 Dp acc ρ' σ' H' Z' := by
  obtain ⟨ws, hws, rws⟩ := L.vals
  refine ⟨S', L.new, ⟨ws, l _ _ hws, rws.mono E.le⟩, ?_, L.same.trans l, L.le.trans E.le, fun a o e => ?_, fun a q => L.own a (ho a q), fun j d q => ?_, fun j d q ob => ?_, hl.trans L.len⟩
  · cases w : Z' Dp with
    | none => rfl
    | some o =>
      rcases E.grow Dp o w with v | v | v
      · rw [L.zD] at v; cases v
      · rw [hws] at v; cases v
      · exact (L.notOwn S0 v).elim
  · rcases E.grow a o e with v | v | v
    · exact L.grow a o v
    · refine .inr (.inl ?_)
      cases hh : H1 a with
      | none => rfl
      | some o' => rw [L.same a o' hh] at v; cases v
    · exact .inr (.inr (L.own a v))
  · obtain ⟨g1, g2⟩ := E.bor j d q
    obtain ⟨g3, g4⟩ := L.bor j d g1
    exact ⟨g3, g2.trans g4⟩
  · obtain ⟨⟨d0, g1, g2⟩, _⟩ := E.obj j d q ob
    exact L.obj j d0 g1 g2
theorem GInv.wipe (L : GInv T ρ0 σ H1 Z1 Dp acc ρ σc H Z) (vs : List Nat) : GInv T ρ0 σ H1 Z1 Dp acc (wipeE ρ vs) (L2.wipe σc vs) H Z :=
  ⟨L.S.wipe vs, L.new, L.vals, L.zD, L.same, L.le, L.grow, fun a q => L.own a (wipe_ownA q), fun j d q => by
    rw [wipeE_get] at q
    split at q
    · cases q
    · rename_i hn
      rw [wipe_get, ← L.S.len, if_neg hn]
      exact L.bor j d q, fun j d q ob => by
    rw [wipeE_get] at q
    split at q
    · cases q
    · exact L.obj j d q ob, (wipeE_len ρ vs).trans L.len⟩
theorem GInv.app (L : GInv T ρ0 σ H1 Z1 Dp acc ρ σc H Z) (S0 : SOk T ρ0 σ H1 Z1) {ws : List V} {y : D} {v : V} (hws : H Dp = some (.lst ws)) (r : Rep T Z y v) : GInv T ρ0 σ H1 Z1 Dp (acc ++ [y]) ρ σc (upd H Dp (.lst (ws ++ [v]))) Z := by
  obtain ⟨ws', hws', rws⟩ := L.vals
  rw [hws] at hws'
  cases hws'
  exact ⟨L.S.other L.zD (L.notOwn S0) (L.notBor S0), L.new, ⟨_, upd_same, rws.append (.single r)⟩, L.zD, fun a o e => by
    have ha : a ≠ Dp := fun w => by rw [w, L.new] at e; cases e
    rw [upd_ne ha]; exact L.same a o e, L.le, L.grow, L.own, L.bor, L.obj, L.len⟩
theorem GInv.start (S : SOk T ρ0 σ H1 Z1) (hD : H1 Dp = none) : GInv T ρ0 σ H1 Z1 Dp [] ρ0 σ (upd H1 Dp (.lst [])) Z1 :=
  ⟨S.new hD, hD, ⟨[], upd_same, rfl⟩, S.zfree hD, upd_le hD, .refl _, fun a o e => .inl e, fun a h => h, fun j d h => ⟨h, rfl⟩, fun j d h ob => ⟨d, h, ob⟩, rfl⟩
/-- the comprehension's end: the block's slots are back -/
theorem GInv.close (L : GInv T ρ0 σ H1 Z1 Dp acc ρ (L2.wipe σ vs) H Z) (S : SOk T ρ0 σ H1 Z1) (ho : okOwn ρ0 vs = true) : SOk T (restE ρ0 ρ vs) σ H Z ∧ EStep ρ0 σ H1 Z1 (restE ρ0 ρ vs) H Z ∧ RvOk T ρ0 σ H1 (restE ρ0 ρ vs) H Z (.ref Dp) (.own (.lst acc)) := by
  obtain ⟨ws, hws, rws⟩ := L.vals
  have gl : ρ.length = ρ0.length := L.len
  have hown : ∀ a, OwnA (restE ρ0 ρ vs) σ a → OwnA ρ (L2.wipe σ vs) a := fun a ⟨j, d, h1, h2⟩ => by
    rw [restE_get ρ0 ρ gl] at h1
    split at h1
    · rename_i hj; exact absurd h1 ((okOwn_ok ho hj).1 d)
    · rename_i hj; exact ⟨j, d, h1, by rw [wipe_get, if_neg (fun w => hj w.1)]; exact h2⟩
  have hbor : ∀ a, BorA (restE ρ0 ρ vs) σ a → BorA ρ (L2.wipe σ vs) a := fun a ⟨j, d, h1, h2⟩ => by
    rw [restE_get ρ0 ρ gl] at h1
    split at h1
    · rename_i hj; exact absurd h1 ((okOwn_ok ho hj).2 d)
    · rename_i hj; exact ⟨j, d, h1, by rw [wipe_get, if_neg (fun w => hj w.1)]; exact h2⟩
  have Sr : SOk T (restE ρ0 ρ vs) σ H Z := by
    refine ⟨by rw [restE_len, gl]; exact S.len, L.S.sub, fun j s h => ?_, fun j k d d' a h1 h2 h3 h4 => ?_, fun a h1 h2 => L.S.sep a (hown a h1) (hbor a h2)⟩
    · rw [restE_get ρ0 ρ gl] at h
      split at h
      · rename_i hj
        have z := S.slot j s h
        cases s with
        | emp => trivial
        | exn _ => exact XSl.mono z L.le
        | val d => obtain ⟨v, e, r⟩ := z; exact ⟨v, e, r.mono L.le⟩
        | own d => exact absurd h ((okOwn_ok ho hj).1 d)
        | bor d => exact absurd h ((okOwn_ok ho hj).2 d)
      · rename_i hj
        have z := L.S.slot j s h
        rw [wipe_get, if_neg (fun w => hj w.1)] at z
        exact z
    · rw [restE_get ρ0 ρ gl] at h1 h2
      split at h1
      · rename_i hj; exact absurd h1 ((okOwn_ok ho hj).1 d)
      · rename_i hj
        split at h2
        · rename_i hk; exact absurd h2 ((okOwn_ok ho hk).1 d')
        · rename_i hk
          exact L.S.inj j k d d' a h1 h2 (by rw [wipe_get, if_neg (fun w => hj w.1)]; exact h3) (by rw [wipe_get, if_neg (fun w => hk w.1)]; exact h4)
  refine ⟨Sr, ⟨⟨fun a o e _ => L.same a o e, L.le, L.grow, fun a h => .inl (L.own a (hown a h)), fun a ⟨o, e⟩ => ⟨o, L.same a o e⟩, fun j d h => ⟨?_, rfl⟩, fun j d h ob => ?_⟩, L.same, by rw [restE_len, gl], fun a h => L.own a (hown a h)⟩,
    Dp, rfl, ⟨ws, hws, rws⟩, L.zD, .inl L.new, fun h => L.notOwn S (hown _ h), fun h => L.notBor S (hbor _ h), rfl⟩
  · rw [restE_get ρ0 ρ gl] at h
    split at h
    · rename_i hj; exact absurd h ((okOwn_ok ho hj).2 d)
    · exact (L.bor j d h).1
  · rw [restE_get ρ0 ρ gl] at h
    split at h
    · rename_i hj; exact absurd h ((okOwn_ok ho hj).1 d)
    · exact ⟨L.obj j d h ob, rfl⟩
end
section
variable {X : Cx} {ta ta1 : Mn Bool} {pos : Pos}
theorem But.wipe {σ σ' : L2.St} {ix vs : List Nat} (b : But σ σ' ix) (h : ∀ j ∈ ix, j ∈ vs) : L2.wipe σ' vs = L2.wipe σ vs := wipe_eq b.1 fun j hj => b.2 j fun w => hj (h j w)
theorem wipe_sub {σ : L2.St} {vs vs1 : List Nat} (h : ∀ j ∈ vs1, j ∈ vs) : L2.wipe (L2.wipe σ vs1) vs = L2.wipe σ vs := wipe_eq (L2.wipe_length σ vs1) fun j hj => by
  rw [wipe_get, if_neg fun w => hj (h j w.1)]
/-- a turn's test and element: from here the list grows or not -/
theorem turn_ok {t : Tn} {elt : Mn Rv} {ρ0 ρ3 : En} {σ σ3 : L2.St} {H1 Z1 H2 Z2 : Hp} {Dp : Addr} {acc : List D} {q : Option D × En} {Nx : Hp → Prop} {hcalm : True} (S0 : SOk (tx X) ρ0 σ H1 Z1) (L : GInv (tx X) ρ0 σ H1 Z1 Dp acc ρ3 σ3 H2 Z2) (hq : lcTurn ta elt ρ3 = some q)
    (k0 : q.1 = none → ∀ H4 Z4, Le H2 H4 → Le Z2 Z4 → GInv (tx X) ρ0 σ H1 Z1 Dp acc q.2 σ3 H4 Z4 → Nx H4)
    (k1 : ∀ y, q.1 = some y → acc.length < sizeLine ∧ ∀ H4 Z4, (∀ a o, a ≠ Dp → H2 a = some o → H4 a = some o) → Le Z2 Z4 → GInv (tx X) ρ0 σ H1 Z1 Dp (acc ++ [y]) q.2 σ3 H4 Z4 → Nx H4) :
    tK kB (tx X) WF ta σ3 H2 fun b H3 => if b = true then tK kD (tx X) WF (cV elt) σ3 H3 fun y H4 => ∃ acc, H4 Dp = some (.lst acc) ∧ acc.length < sizeLine ∧ Nx (upd H4 Dp (.lst (acc ++ [y]))) else Nx H3 := by
  unfold lcTurn at hq
  refine ⟨ρ3, Z2, L.S, ?_⟩
  cases hc : ta ρ3 with
  | stuck => rw [hc] at hq; cases hq
  | exc x ρ4 => rw [hc] at hq; cases hq
  | ok b ρ4 =>
    rw [hc] at hq
    intro b' H4 Z4 S4 E4 eb
    obtain rfl : b' = b := eb
    have L4 := L.step S0 S4 E4.step E4.same E4.ownE E4.len
    cases b' with
    | false =>
      cases hq
      exact k0 rfl H4 Z4 E4.same E4.step.le L4
    | true =>
      simp only at hq
      refine ⟨ρ4, Z4, S4, ?_⟩
      cases he : cV elt ρ4 with
      | stuck => rw [he] at hq; cases hq
      | exc x ρ5 => rw [he] at hq; cases hq
      | ok y ρ5 =>
        rw [he] at hq
        cases hq
        intro v H5 Z5 S5 E5 ry
        have L5 := L4.step S0 S5 E5.step E5.same E5.ownE E5.len
        obtain ⟨hz, kk⟩ := k1 y rfl
        obtain ⟨ws5, hws5, rws5⟩ := L5.vals
        refine ⟨ws5, hws5, by rw [← rws5.length]; exact hz, kk _ Z5 (fun a o ha e => ?_) (E4.step.le.trans E5.step.le) (L5.app S0 hws5 ry)⟩
        rw [upd_ne ha]
        exact E5.same a o (E4.same a o e)
theorem lc2_ok {W : WX} {t t1 : Tn} {vs vs1 : List Nat} {it1 : Mn (List D)} {elt : Mn Rv} {ds : List D} {J : It} {ρ : En} {σ : L2.St} {H Z : Hp} {Q : VK} {G : Addr → Prop} {wi1 : TI} (hi1 : ∀ σ H R, tK (kI (tx X) σ) (tx X) WF it1 σ H R → wi1 σ H R) (S : SOk (tx X) ρ σ H Z) (hs : Src (tx X) G ρ σ H Z J ds)
    (p : Po kE (tx X) ρ σ H Z ((if okOwn ρ vs && t.ix.all (fun i => vs.contains i) && t1.ix.all (fun i => vs1.contains i) && vs1.all (fun i => vs.contains i) then (match lcL2 t ta it1 t1 ta1 elt vs vs1 ds [] (wipeE ρ vs) with
      | some q => .ok (.own (.lst q.1)) (restE ρ q.2 vs)
      | none => .stuck) else .stuck : Out Rv)) W Q) (Dp : Addr) (hD : H Dp = none) :
    ∃ Wi : Nat → Nat → Hp → Prop, (∃ m, Wi 0 m (upd H Dp (.lst []))) ∧ ∀ i m H, Wi i m H →
      (J.stop i H ∧ Q (.ref Dp) H) ∨ (J.go i H ∧ ∃ Nx : Hp → Prop, (∀ H', Nx H' → ∃ m', m' < m ∧ Wi (i + 1) m' H') ∧ ∀ x H', J.yld i H x H' → gTn X.K t x (L2.wipe σ vs) H' fun σ2 H2 => L2.wipe σ2 vs = L2.wipe σ vs ∧ tK kB (tx X) WF ta σ2 H2 fun b H3 =>
        if b = true then wi1 σ2 H3 fun J1 H4 => ∃ W1 : Nat → Nat → Hp → Prop, (∃ m, W1 0 m H4) ∧ ∀ j k H, W1 j k H →
          (J1.stop j H ∧ Nx H) ∨ (J1.go j H ∧ ∃ Nx1 : Hp → Prop, (∀ H', Nx1 H' → ∃ k', k' < k ∧ W1 (j + 1) k' H') ∧ ∀ x H', J1.yld j H x H' → gTn X.K t1 x (L2.wipe σ2 vs1) H' fun σ3 H5 => L2.wipe σ3 vs1 = L2.wipe σ2 vs1 ∧ tK kB (tx X) WF ta1 σ3 H5 fun b H6 =>
            if b = true then tK kD (tx X) WF (cV elt) σ3 H6 fun y H7 => ∃ acc, H7 Dp = some (.lst acc) ∧ acc.length < sizeLine ∧ Nx1 (upd H7 Dp (.lst (acc ++ [y]))) else Nx1 H6)
        else Nx H3) := by
  by_cases hok : (okOwn ρ vs && t.ix.all (fun i => vs.contains i) && t1.ix.all (fun i => vs1.contains i) && vs1.all (fun i => vs.contains i)) = true
  · rw [if_pos hok] at p
    simp only [Bool.and_eq_true] at hok
    obtain ⟨⟨⟨ho, hix⟩, hix1⟩, hsub⟩ := hok
    have hix : ∀ j ∈ t.ix, j ∈ vs := fun j hj => by simpa using List.all_eq_true.mp hix j hj
    have hix1 : ∀ j ∈ t1.ix, j ∈ vs1 := fun j hj => by simpa using List.all_eq_true.mp hix1 j hj
    have hsub : ∀ j ∈ vs1, j ∈ vs := fun j hj => by simpa using List.all_eq_true.mp hsub j hj
    cases hq : lcL2 t ta it1 t1 ta1 elt vs vs1 ds [] (wipeE ρ vs) with
    | none => rw [hq] at p; exact p.elim
    | some fin =>
      rw [hq] at p
      refine ⟨fun i m H' => m = ds.length - i ∧ i ≤ ds.length ∧ ∃ acc ρ' Z', GInv (tx X) ρ σ H Z Dp acc ρ' (L2.wipe σ vs) H' Z' ∧ lcL2 t ta it1 t1 ta1 elt vs vs1 (ds.drop i) acc ρ' = some fin, ⟨_, rfl, Nat.zero_le _, [], wipeE ρ vs, Z, (GInv.start S hD).wipe vs, by rw [List.drop_zero]; exact hq⟩, ?_⟩
      rintro i m H' ⟨rfl, hi, acc, ρ', Z', L, hl⟩
      obtain ⟨P, hP, src⟩ := id hs
      have hsrc := src H' Z' (fun a ha => by
        obtain ⟨⟨o, ho⟩, _⟩ := hP a ha
        rw [L.same a o ho, ho]) L.le L.S.sub
      obtain ⟨hstop, hgo⟩ := hsrc
      rcases Nat.lt_or_ge i ds.length with hlt | hge
      · have hd : ds[i]? = some ds[i] := List.getElem?_eq_getElem hlt
        obtain ⟨g, y⟩ := hgo i _ hd
        refine .inr ⟨g, fun H2 => ds.length - (i + 1) = ds.length - (i + 1) ∧ i + 1 ≤ ds.length ∧ ∃ acc ρ' Z', GInv (tx X) ρ σ H Z Dp acc ρ' (L2.wipe σ vs) H2 Z' ∧ lcL2 t ta it1 t1 ta1 elt vs vs1 (ds.drop (i + 1)) acc ρ' = some fin, fun H2 h => ⟨_, by omega, h⟩, fun x H2 yx => ?_⟩
        obtain ⟨l1, Z2, l2, l3, l4, r⟩ := y x H2 yx
        have S2 := L.S.growN l1 l2 l3 l4
        rw [drop_cons hd] at hl
        unfold lcL2 at hl
        cases ht : setTn t ds[i] ρ' with
        | none => rw [ht] at hl; cases hl
        | some ρ3 =>
          rw [ht] at hl
          refine setTn_ok ht S2 r fun σ3 S3 E3 b3 o3 => ?_
          have ew : L2.wipe σ3 vs = L2.wipe σ vs := by rw [b3.wipe hix, wipe_wipe]
          have E03 : Step ρ' (L2.wipe σ vs) H' Z' ρ3 σ3 H2 Z2 := (step_grow l1 l2 l4).trans E3
          have len3 : ρ3.length = ρ'.length := by rw [S3.len, b3.1, ← S2.len]
          have L3 : GInv (tx X) ρ σ H Z Dp acc ρ3 σ3 H2 Z2 := L.step S S3 E03 l1 (fun a q => o3 a q) len3
          simp only [Option.bind_some] at hl
          refine ⟨ew, ρ3, Z2, S3, ?_⟩
          cases hc : ta ρ3 with
          | stuck => rw [hc] at hl; cases hl
          | exc x ρ4 => rw [hc] at hl; cases hl
          | ok b ρ4 =>
            rw [hc] at hl
            intro b' H4 Z4 S4 E4 eb
            obtain rfl : b' = b := eb
            have L4 := L3.step S S4 E4.step E4.same E4.ownE E4.len
            cases b' with
            | false =>
              have L5 := L4.wipe vs
              rw [ew] at L5
              exact ⟨rfl, hlt, acc, wipeE ρ4 vs, Z4, L5, hl⟩
            | true =>
              simp only at hl
              refine hi1 σ3 H4 _ ⟨ρ4, Z4, S4, ?_⟩
              cases he : it1 ρ4 with
              | stuck => rw [he] at hl; cases hl
              | exc x ρ5 => rw [he] at hl; cases hl
              | ok es ρ5 =>
                rw [he] at hl
                simp only at hl
                intro J1 H5 Z5 S5 E5 hsr
                have L5 := L4.step S S5 E5.step E5.same E5.ownE E5.len
                have noD4 := L4.notOwn S
                have nbD4 := L4.notBor S
                obtain ⟨P1, hP1, src1⟩ := (show Src (tx X) (From ρ4 σ3 H4 Z5) ρ5 σ3 H5 Z5 J1 es from hsr)
                have hnD : Dp ∉ P1 := fun w => by
                  obtain ⟨_, _, q⟩ := hP1 Dp w
                  obtain ⟨ws, hws, _⟩ := L4.vals
                  rcases q with (q | q) | ⟨o, q⟩ | q
                  · rw [hws] at q; cases q
                  · exact noD4 q
                  · rw [L5.zD] at q; cases q
                  · exact nbD4 q
                cases hin : lcL t1 ta1 elt vs1 es acc (wipeE ρ5 vs1) with
                | none => rw [hin] at hl; cases hl
                | some fq =>
                  rw [hin] at hl
                  simp only [Option.bind_some] at hl
                  refine ⟨fun j k H' => k = es.length - j ∧ j ≤ es.length ∧ ∃ acc ρ' Z', GInv (tx X) ρ σ H Z Dp acc ρ' (L2.wipe σ3 vs1) H' Z' ∧ (∀ a o, a ≠ Dp → H5 a = some o → H' a = some o) ∧ Le Z5 Z' ∧ lcL t1 ta1 elt vs1 (es.drop j) acc ρ' = some fq,
                    ⟨_, rfl, Nat.zero_le _, acc, wipeE ρ5 vs1, Z5, L5.wipe vs1, fun _ _ _ e => e, .refl _, by rw [List.drop_zero]; exact hin⟩, ?_⟩
                  rintro j k H6 ⟨rfl, hj, acc6, ρ6, Z6, L6, f6, z6, hl6⟩
                  have hsrc1 := src1 H6 Z6 (fun a ha => by
                    obtain ⟨⟨o, ho⟩, _⟩ := hP1 a ha
                    rw [f6 a o (fun w => hnD (w ▸ ha)) ho, ho]) z6 L6.S.sub
                  obtain ⟨hstop1, hgo1⟩ := hsrc1
                  rcases Nat.lt_or_ge j es.length with hlt1 | hge1
                  · have hd1 : es[j]? = some es[j] := List.getElem?_eq_getElem hlt1
                    obtain ⟨g1, y1⟩ := hgo1 j _ hd1
                    refine .inr ⟨g1, fun H' => es.length - (j + 1) = es.length - (j + 1) ∧ j + 1 ≤ es.length ∧ ∃ acc ρ' Z', GInv (tx X) ρ σ H Z Dp acc ρ' (L2.wipe σ3 vs1) H' Z' ∧ (∀ a o, a ≠ Dp → H5 a = some o → H' a = some o) ∧ Le Z5 Z' ∧ lcL t1 ta1 elt vs1 (es.drop (j + 1)) acc ρ' = some fq, fun H' h => ⟨_, by omega, h⟩, fun x H7 yx1 => ?_⟩
                    obtain ⟨m1, Z7, m2, m3, m4, r7⟩ := y1 x H7 yx1
                    have S7 := L6.S.growN m1 m2 m3 m4
                    rw [drop_cons hd1] at hl6
                    unfold lcL at hl6
                    cases ht1 : setTn t1 es[j] ρ6 with
                    | none => rw [ht1] at hl6; cases hl6
                    | some ρ8 =>
                      rw [ht1] at hl6
                      simp only [Option.bind_some] at hl6
                      refine setTn_ok ht1 S7 r7 fun σ8 S8 E8 b8 o8 => ?_
                      have ew1 : L2.wipe σ8 vs1 = L2.wipe σ3 vs1 := by rw [b8.wipe hix1, wipe_wipe]
                      have E08 : Step ρ6 (L2.wipe σ3 vs1) H6 Z6 ρ8 σ8 H7 Z7 := (step_grow m1 m2 m4).trans E8
                      have len8 : ρ8.length = ρ6.length := by rw [S8.len, b8.1, ← S7.len]
                      have L8 : GInv (tx X) ρ σ H Z Dp acc6 ρ8 σ8 H7 Z7 := L6.step S S8 E08 m1 (fun a q => o8 a q) len8
                      cases hlt : lcTurn ta1 elt ρ8 with
                      | none => rw [hlt] at hl6; cases hl6
                      | some q8 =>
                        rw [hlt] at hl6
                        simp only [Option.bind_some] at hl6
                        refine ⟨ew1, turn_ok (t := t1) (hcalm := trivial) S L8 hlt (fun e0 H9 Z9 h9 z9 L9 => ?_) fun y9 e1 => ?_⟩
                        · rw [e0] at hl6
                          have L10 := L9.wipe vs1
                          rw [ew1] at L10
                          exact ⟨rfl, hlt1, acc6, wipeE q8.2 vs1, Z9, L10, fun a o ha e => h9 a o (m1 a o (f6 a o ha e)), z6.trans (m2.trans z9), hl6⟩
                        · rw [e1] at hl6
                          simp only at hl6
                          by_cases hz : acc6.length < sizeLine
                          · rw [if_pos hz] at hl6
                            refine ⟨hz, fun H9 Z9 h9 z9 L9 => ?_⟩
                            have L10 := L9.wipe vs1
                            rw [ew1] at L10
                            exact ⟨rfl, hlt1, acc6 ++ [y9], wipeE q8.2 vs1, Z9, L10, fun a o ha e => h9 a o ha (m1 a o (f6 a o ha e)), z6.trans (m2.trans z9), hl6⟩
                          · rw [if_neg hz] at hl6; cases hl6
                  · have ej : j = es.length := by omega
                    subst ej
                    rw [List.drop_length] at hl6
                    unfold lcL at hl6
                    cases hl6
                    refine .inl ⟨hstop1, rfl, hlt, acc6, wipeE ρ6 vs, Z6, ?_, hl⟩
                    have L10 := L6.wipe vs
                    rw [wipe_sub hsub, ew] at L10
                    exact L10
      · have e : i = ds.length := by omega
        subst e
        rw [List.drop_length] at hl
        unfold lcL2 at hl
        cases hl
        obtain ⟨S9, E9, R9⟩ := L.close S ho
        exact .inl ⟨hstop, p (.ref Dp) H' Z' S9 E9 R9⟩
  · rw [if_neg hok] at p; exact p.elim
theorem lc2_read {W : WX} {wi wi1 : TI} {t t1 : Tn} {vs vs1 : List Nat} {elt : Mn Rv} {ci ci1 : Mn (List D)} (hi : ∀ σ H R, tK (kI (tx X) σ) (tx X) W ci σ H R → wi σ H R) (hi1 : ∀ σ H R, tK (kI (tx X) σ) (tx X) WF ci1 σ H R → wi1 σ H R) : ∀ σ H Q, tK kE (tx X) W (cLc2 ci t ta ci1 t1 ta1 elt vs vs1) σ H Q →
    L2.tLc2 wi (gTn X.K t) (tK kB (tx X) WF ta) wi1 (gTn X.K t1) (tK kB (tx X) WF ta1) (tK kD (tx X) WF (cV elt)) vs vs1 σ H Q := fun σ H Q ⟨ρ, Z, S, p⟩ => by
  refine hi σ H _ ⟨ρ, Z, S, p.bnd (k1 := kI (tx X) σ) fun ds J ρ1 H1 Z1 S1 E1 o1 p1 => ?_⟩
  intro Dp hD
  exact lc2_ok hi1 S1 o1 p1 Dp hD
theorem blk_pi {tg iter : Expr} {ci : Mn (List D)} {s : Shared} {H : Hp} {scope : Scope} {cenv : Env} {fp : List Addr} (hc : X.calm = true) (h : SI (X.blk s H scope cenv fp) tg iter ci) : PI (X.blk s H scope cenv fp) tg iter (fun σ H R => tK (kI (tx X) σ) (tx X) WF ci σ H R) := by
  have h := h.run WF takes0
  rw [tx_calm (X := X.blk s H scope cenv fp) hc] at h
  rw [tx_calm hc]
  exact h
theorem se_lc2 {elt tg iter tg1 iter1 : Expr} {ifs ifs1 : List Expr} {scope : Scope} {own : List (Str × Nat)} {vs1 : List Nat} {ci ci1 : Mn (List D)} {t t1 : Tn} {ce : Mn Rv} (hc : X.calm = true) (hN : X.N.Nodup) (hi : SI X tg iter ci) (ok : L2.BlkOk X.N X.env.scope scope own) (hv : ∀ i ∈ vs1, i ∈ own.map (·.2))
    (hg : ∀ (s : Shared) (H : Hp) (C : Addr) (cl : List (Str × Addr)) (fp : List Addr), SN (X.blk s H scope (compEnvC scope cl C X.env) fp) tg t) (ht : ∀ (s : Shared) (H : Hp) (C : Addr) (cl : List (Str × Addr)) (fp : List Addr), SC (X.blk s H scope (compEnvC scope cl C X.env) fp) ifs ta)
    (hi1 : ∀ (s : Shared) (H : Hp) (C : Addr) (cl : List (Str × Addr)) (fp : List Addr), SI (X.blk s H scope (compEnvC scope cl C X.env) fp) tg1 iter1 ci1)
    (hg1 : ∀ (s : Shared) (H : Hp) (C : Addr) (cl : List (Str × Addr)) (fp : List Addr), SN (X.blk s H scope (compEnvC scope cl C X.env) fp) tg1 t1) (ht1 : ∀ (s : Shared) (H : Hp) (C : Addr) (cl : List (Str × Addr)) (fp : List Addr), SC (X.blk s H scope (compEnvC scope cl C X.env) fp) ifs1 ta1)
    (he : ∀ (s : Shared) (H : Hp) (C : Addr) (cl : List (Str × Addr)) (fp : List Addr), SE (X.blk s H scope (compEnvC scope cl C X.env) fp) elt ce) (hs : ∀ x, foldedSetIterable iter X.env x = pure x := by intro _; rfl) (hs1 : ∀ env x, foldedSetIterable iter1 env x = pure x := by intro _ _; rfl) :
    SE X (.ListComp elt [⟨tg, iter, ifs, 0⟩, ⟨tg1, iter1, ifs1, 0⟩] scope pos) (cLc2 ci t ta ci1 t1 ta1 ce (own.map (·.2)) vs1) :=
  ⟨fun W tk => peI (L2.pe_lc2 hc hN (hi.run W tk) ok hv (fun s H C cl fp => (hg s H C cl fp).run) (fun s H C cl fp => blk_pts hc (ht s H C cl fp)) (fun s H C cl fp => blk_pi hc (hi1 s H C cl fp)) (fun s H C cl fp => (hg1 s H C cl fp).run) (fun s H C cl fp => blk_pts hc (ht1 s H C cl fp)) (fun s H C cl fp => blk_pe hc (he s H C cl fp)) hs hs1) (lc2_read (fun _ _ _ h => h) fun _ _ _ h => h)⟩
theorem ss_setLc2 {y : Str} {py : Pos} {i : Nat} {elt tg iter tg1 iter1 : Expr} {ifs ifs1 : List Expr} {scope : Scope} {own : List (Str × Nat)} {vs1 : List Nat} {spos : Pos} {ci ci1 : Mn (List D)} {t t1 : Tn} {ce : Mn Rv} (hc : X.calm = true) (hN : X.N.Nodup) (hy : X.N[i]? = some y) (hyl : X.env.scope.names.lookup y = some .local)
    (hsw : swapsWith (.ListComp elt [⟨tg, iter, ifs, 0⟩, ⟨tg1, iter1, ifs1, 0⟩] scope pos) (some (.Name y py)) spos.line X.env = pure true) (hi : SI X tg iter ci) (ok : L2.BlkOk X.N X.env.scope scope own) (hv : ∀ i ∈ vs1, i ∈ own.map (·.2))
    (hg : ∀ (s : Shared) (H : Hp) (C : Addr) (cl : List (Str × Addr)) (fp : List Addr), SN (X.blk s H scope (compEnvC scope cl C X.env) fp) tg t) (ht : ∀ (s : Shared) (H : Hp) (C : Addr) (cl : List (Str × Addr)) (fp : List Addr), SC (X.blk s H scope (compEnvC scope cl C X.env) fp) ifs ta)
    (hi1 : ∀ (s : Shared) (H : Hp) (C : Addr) (cl : List (Str × Addr)) (fp : List Addr), SI (X.blk s H scope (compEnvC scope cl C X.env) fp) tg1 iter1 ci1)
    (hg1 : ∀ (s : Shared) (H : Hp) (C : Addr) (cl : List (Str × Addr)) (fp : List Addr), SN (X.blk s H scope (compEnvC scope cl C X.env) fp) tg1 t1) (ht1 : ∀ (s : Shared) (H : Hp) (C : Addr) (cl : List (Str × Addr)) (fp : List Addr), SC (X.blk s H scope (compEnvC scope cl C X.env) fp) ifs1 ta1)
    (he : ∀ (s : Shared) (H : Hp) (C : Addr) (cl : List (Str × Addr)) (fp : List Addr), SE (X.blk s H scope (compEnvC scope cl C X.env) fp) elt ce) (hs : ∀ x, foldedSetIterable iter X.env x = pure x := by intro _; rfl) (hs1 : ∀ env x, foldedSetIterable iter1 env x = pure x := by intro _ _; rfl) :
    SS X (.Assign [.Name y py] (.ListComp elt [⟨tg, iter, ifs, 0⟩, ⟨tg1, iter1, ifs1, 0⟩] scope pos) spos) (cSet i (cLc2 ci t ta ci1 t1 ta1 ce (own.map (·.2)) vs1)) :=
  ⟨fun W tk => psI (L2.ps_setLc2 hc hN hy hyl hsw (hi.run W tk) ok hv (fun s H C cl fp => (hg s H C cl fp).run) (fun s H C cl fp => blk_pts hc (ht s H C cl fp)) (fun s H C cl fp => blk_pi hc (hi1 s H C cl fp)) (fun s H C cl fp => (hg1 s H C cl fp).run) (fun s H C cl fp => blk_pts hc (ht1 s H C cl fp)) (fun s H C cl fp => blk_pe hc (he s H C cl fp)) hs hs1) fun Dn σ H h => by
    have h2 := set_ok (X := X) (hN := hN) Dn σ H h
    exact lc2_read (fun _ _ _ h => h) (fun _ _ _ h => h) σ H _ h2⟩
end
end CI
end
section
set_option maxRecDepth 100000
set_option maxHeartbeats 1000000
/-! CISort: sorted(list) of ints, of tuples of ints; in, not in over flat sequences; written dicts. -/
namespace CI
open PySem L2 PyProof.Rows
/-! ### the order of lists of ints -/
def ltL : List Int → List Int → Bool
  | _, [] => false
  | [], _ :: _ => true
  | a :: x, b :: y => if a = b then ltL x y else decide (a < b)
def leL (x y : List Int) : Bool := !ltL y x
theorem ltL_asym : ∀ {x y : List Int}, ltL x y = true → ltL y x = false
  | x, [], h => by cases x <;> cases h
  | [], _ :: _, _ => rfl
  | a :: x, b :: y, h => by
    unfold ltL at h ⊢
    by_cases e : a = b
    · rw [if_pos e] at h; rw [if_pos e.symm]; exact ltL_asym h
    · rw [if_neg e] at h
      rw [if_neg (fun z => e z.symm)]
      have := of_decide_eq_true h
      exact decide_eq_false (by omega)
theorem ltL_tr : ∀ {x y z : List Int}, ltL y x = false → ltL z y = false → ltL z x = false
  | [], _, z, _, _ => by cases z <;> rfl
  | a :: x, [], z, h, _ => by cases h
  | a :: x, b :: y, [], _, h => by cases h
  | a :: x, b :: y, c :: z, h1, h2 => by
    unfold ltL at h1 h2 ⊢
    by_cases e1 : b = a
    · rw [if_pos e1] at h1
      by_cases e2 : c = b
      · rw [if_pos e2] at h2
        rw [if_pos (e2.trans e1)]
        exact ltL_tr h1 h2
      · rw [if_neg e2] at h2
        rw [if_neg (fun w => e2 (w.trans e1.symm)), ← e1]
        exact h2
    · rw [if_neg e1] at h1
      have h1 := of_decide_eq_false h1
      by_cases e2 : c = b
      · rw [if_neg (fun w => e1 (e2.symm.trans w)), e2]
        exact decide_eq_false h1
      · rw [if_neg e2] at h2
        have h2 := of_decide_eq_false h2
        rw [if_neg (fun w => by omega)]
        exact decide_eq_false (by omega)
theorem ltL_eq : ∀ {x y : List Int}, ltL x y = false → ltL y x = false → x = y
  | [], [], _, _ => rfl
  | [], _ :: _, h, _ => by cases h
  | _ :: _, [], _, h => by cases h
  | a :: x, b :: y, h1, h2 => by
    unfold ltL at h1 h2
    by_cases e : a = b
    · rw [if_pos e] at h1
      rw [if_pos e.symm] at h2
      rw [e, ltL_eq h1 h2]
    · rw [if_neg e] at h1
      rw [if_neg (fun z => e z.symm)] at h2
      have h1 := of_decide_eq_false h1
      have h2 := of_decide_eq_false h2
      omega
def sortT (l : List (List Int)) : List (List Int) := l.mergeSort leL
theorem leL_trans (a b c : List Int) (h1 : leL a b = true) (h2 : leL b c = true) : leL a c = true := by
  unfold leL at *
  simp only [Bool.not_eq_true'] at *
  exact ltL_tr h1 h2
theorem leL_total (a b : List Int) : (leL a b || leL b a) = true := by
  unfold leL
  cases h : ltL b a with
  | false => simp
  | true => simp [ltL_asym h]
theorem sortT_uniq {l m : List (List Int)} (hp : m.Perm l) (hs : m.Pairwise fun x y => ltL y x = false) : m = sortT l := by
  have hs' : m.Pairwise fun a b => leL a b = true := hs.imp fun {x y} h => by unfold leL; rw [h]; rfl
  refine List.Perm.eq_of_pairwise (le := fun a b => leL a b = true) (fun a b _ _ h1 h2 => ?_) hs' (List.pairwise_mergeSort leL_trans leL_total l) (hp.trans (List.mergeSort_perm l leL).symm)
  unfold leL at h1 h2
  simp only [Bool.not_eq_true'] at h1 h2
  exact ltL_eq h2 h1
def sortI (l : List Int) : List Int := l.mergeSort fun a b => decide (a ≤ b)
theorem sortI_uniq {l m : List Int} (hp : m.Perm l) (hs : m.Pairwise (· ≤ ·)) : m = sortI l := by
  have h1 : (sortI l).Pairwise fun a b => decide (a ≤ b) = true := List.pairwise_mergeSort (fun a b c h1 h2 => by simp at *; omega) (fun a b => by simp; omega) l
  refine List.Perm.eq_of_pairwise (le := (· ≤ ·)) (fun a b _ _ h1 h2 => by omega) hs (h1.imp fun {x y} h => of_decide_eq_true h) (hp.trans (List.mergeSort_perm l _).symm)
/-! ### the library's sort over tuples of ints -/
def ivs (vs : List Value) : List Int := vs.map SrtO.iv
def atI' (h : Heap) : Value → List Int
  | .ref a => match h.get? a with
    | some o => match o.data with
      | .seq xs _ => ivs xs.toList
      | _ => []
    | none => []
  | _ => []
def TupI (h : Heap) (v : Value) (ns : List Int) : Prop := ∃ a o xs n, v = .ref a ∧ h.get? a = some o ∧ o.cls = .type "tuple" ∧ o.data = .seq xs n ∧ IntsAre xs.toList ns
theorem TupI.eq {h : Heap} {v : Value} {ns : List Int} (t : TupI h v ns) : atI' h v = ns := by
  obtain ⟨a, o, xs, n, rfl, ho, hc, hd, hi⟩ := t
  show (match h.get? a with
    | some o => match o.data with
      | .seq xs _ => ivs xs.toList
      | _ => []
    | none => []) = ns
  rw [ho]
  dsimp only
  rw [hd]
  exact SrtO.iv_ints hi
theorem TupI.keeps {h h' : Heap} {v : Value} {ns : List Int} (t : TupI h v ns) (k : ∀ b o, h.get? b = some o → o.cls = .type "tuple" → h'.get? b = some o) : TupI h' v ns := by
  obtain ⟨a, o, xs, n, rfl, ho, hc, hd, hi⟩ := t
  exact ⟨a, o, xs, n, rfl, k a o ho hc, hc, hd, hi⟩
section
variable {prog : Program} {w : World} {A : Around} {E : Value → Shared → Prop} {s : Shared}
theorem lex_of {b fin : Bool} {Q : Bool → Shared → Prop} : ∀ {xs ys : List Value} {ns ms : List Int} (i : Nat), IntsAre xs ns → IntsAre ys ms → fin = decide (ns.length < ms.length) → Q (ltL ns ms) s → PySem.W.KatLex prog w A b fin Q (xs.zip ys) i s
  | [], [], _, _, i, .nil, .nil, e, h => by rw [e]; exact PySem.W.kat_nil h
  | [], _ :: _, _, _, i, .nil, .cons q u hy, e, h => by
    have e2 : fin = true := by rw [e]; simp
    rw [e2]
    exact PySem.W.kat_nil h
  | _ :: _, [], _, _, i, .cons p t hx, .nil, e, h => by
    have e2 : fin = false := by rw [e]; simp
    rw [e2]
    exact PySem.W.kat_nil h
  | _ :: xs, _ :: ys, _, _, i, @IntsAre.cons p t _ ns hx, @IntsAre.cons q u _ ms hy, e, h => by
    show PySem.W.KatLex prog w A b fin Q ((Value.int p t, Value.int q u) :: xs.zip ys) i s
    refine PySem.W.kat_cons (wpAny_eqBool_int ?_)
    unfold ltL at h
    by_cases ep : p = q
    · subst ep
      rw [beq_self_eq_true]
      rw [if_pos rfl] at h
      exact PySem.W.kat_yes (lex_of (i + 1) hx hy (by rw [e]; simp) h)
    · rw [show (p == q) = false from beq_eq_false_iff_ne.mpr ep]
      rw [if_neg ep] at h
      exact PySem.W.kat_no (TS.oneLt_ints _ h)
theorem swo_ltL {α : Type} (k : α → List Int) : SrtO.Swo fun x y => ltL (k x) (k y) := ⟨fun x y h => ltL_asym h, fun x y z h1 h2 => ltL_tr h1 h2⟩
theorem tup_firsts {h : Heap} : ∀ {vs : List Value}, (∀ v ∈ vs, ∃ ns, TupI h v ns ∧ ns ≠ []) → ∃ fs : List Value, PySem.W.KatTups h vs fs ∧ fs.length = vs.length ∧ ∀ f ∈ fs, ∃ x t, f = Value.int x t
  | [], _ => ⟨[], PySem.W.KatTups.nil, rfl, fun _ hm => by simp at hm⟩
  | v :: vs, hp => by
    obtain ⟨fs, h1, h2, h3⟩ := tup_firsts (vs := vs) fun v' hm => hp v' (List.mem_cons_of_mem _ hm)
    obtain ⟨ns, ⟨a, o, xs, n, e, ho, hc, hd, hi⟩, hne⟩ := hp v (List.mem_cons_self ..)
    subst e
    obtain ⟨l⟩ := xs
    have hi : IntsAre l ns := hi
    cases hi with
    | nil => exact absurd rfl hne
    | @cons x t l' ns' r =>
      refine ⟨.int x t :: fs, PySem.W.KatTups.cons ho hc hd rfl h1, by rw [List.length_cons, List.length_cons, h2], fun f hm => ?_⟩
      rcases List.mem_cons.mp hm with rfl | hm
      · exact ⟨x, t, rfl⟩
      · exact h3 f hm
theorem tups_cmp {vs : List Value} (k : Value → List Int) (hp : ∀ v ∈ vs, TupI s.heap v (k v)) : SrtO.Cmp prog w A s (tuples' true) (fun p => p.1 ∈ vs) (SrtO.lt2 fun v u => ltL (k v) (k u)) := by
  intro p q hm hm'
  obtain ⟨a, o, xs, n, e, ho, hc, hd, hi⟩ := hp _ hm
  obtain ⟨a', o', xs', n', e', ho', hc', hd', hi'⟩ := hp _ hm'
  show wpAny (model prog w) A (keyLt' (tuples' true) p.1 q.1) (fun r s' => s' = s ∧ r = ltL (k p.1) (k q.1)) (fun _ _ => False) s
  generalize k p.1 = ns at hi ⊢
  generalize k q.1 = ms at hi' ⊢
  rw [e, e']
  refine PySem.W.kat_lt ho hd ho' hd' (lex_of 0 hi hi' ?_ ⟨rfl, rfl⟩)
  rw [← hi.length, ← hi'.length, Array.length_toList, Array.length_toList]
theorem tups_sortable {a : Addr} {vs : List Value} (k : Value → List Int) (h0 : 0 < vs.length) (hp : ∀ v ∈ vs, TupI s.heap v (k v) ∧ k v ≠ []) (ha : ∀ o, s.heap.get? a = some o → o.cls ≠ .type "tuple") : SrtO.SortableO prog w A s a vs fun v u => ltL (k v) (k u) := by
  intro h' keep
  have hp' : ∀ v ∈ vs, TupI h' v (k v) := fun v hm => (hp v hm).1.keeps fun b o e c => keep b o (fun z => by subst z; exact ha o e c) e
  obtain ⟨fs, h1, h2, h3⟩ := tup_firsts fun v hm => ⟨_, hp' v hm, (hp v hm).2⟩
  refine ⟨tuples' true, fun Q E hq => ?_, tups_cmp k hp'⟩
  refine PySem.W.kat_kind (T := .type "int") h1 (by omega) (fun f hm => ?_) (by rfl) ?_
  · obtain ⟨x, t, rfl⟩ := h3 f hm
    exact PySem.W.Looks.now
  · have e : (Value.type "int" != Value.type "tuple") = true := by first | decide +kernel | rfl | decide
    rw [e]
    exact hq
theorem sorted_tupsL {l : Addr} {vs : List Value} {Q : Value → Shared → Prop} (k : Value → List Int) (hl : s.heap.IsList l vs.toArray) (hz : vs.length ≤ sizeLine) (hp : ∀ v ∈ vs, TupI s.heap v (k v) ∧ k v ≠ [])
    (h : ∀ (h' : Heap) (d : Addr) (out : List Value), SrtO.Srtd (fun v u => ltL (k v) (k u)) out → SrtO.Stb (fun v u => ltL (k v) (k u)) out vs → (∀ b o, s.heap.get? b = some o → h'.get? b = some o) → s.heap.objs.size ≤ d → (∃ n, h'.get? d = some (seqObj "list" out.toArray n)) → Q (.ref d) { s with heap := h' }) :
    wpAny (model prog w) A (call (.builtin "sorted") [.ref l]) Q E s := by
  refine SrtO.sorted_ord (swo_ltL k) hl hz (fun h2 h₁ a ha kk => ?_) fun out hs hb => ?_
  · refine tups_sortable (s := { s with heap := h₁ }) k (by omega) (fun v hm => ⟨(hp v hm).1.keeps fun b o e _ => (kk b o e).2, (hp v hm).2⟩) fun o e => ?_
    have e' : some o = some (seqObj "list" vs.toArray 0) := e.symm.trans ha
    cases e'
    intro c
    exact absurd (Value.type.inj c) (by decide)
  · exact h _ _ out hs hb (fun b o e => sortedAll_old e) (Nat.le_succ _) (sortedAll_at s.heap vs out.toArray)
end
/-! ### as a rule -/
def IsTI (K : PySem.W.Frag) (H : Hp) (x : V) (ns : List Int) : Prop := (∃ t, x = .ref t ∧ SqT K H t (ns.map V.int)) ∧ ns ≠ []
def rSortTI (K : PySem.W.Frag) : List V → Hp → VK → Prop := fun vs H Q => ∃ (a : Addr) (xs : List V) (nss : List (List Int)), vs = [V.ref a] ∧ SqL K H a xs ∧ xs.length = nss.length ∧ (∀ p ∈ xs.zip nss, IsTI K H p.1 p.2) ∧
  ∀ (ys : List V) (p : Addr), ys.length = nss.length → (ys.zip (sortT nss)).Perm (xs.zip nss) → H p = none → Q (.ref p) (upd H p (.lst ys))
section
variable {X : Cx}
theorem tupI_of {pins : List (Addr × Obj)} {σ : L2.St} {H : Hp} {s : Shared} {x : V} {u : Value} {ns : List Int} (I : Inv X pins σ H s) (r : RelV x u) (h : IsTI X.K H x ns) : TupI s.heap u ns ∧ ns ≠ [] := by
  obtain ⟨⟨t, rfl, hT⟩, hne⟩ := h
  obtain rfl : u = Value.ref t := r
  obtain ⟨its, rv, ⟨o, ho, hc, n, hd⟩, _⟩ := I.tuple hT
  exact ⟨⟨t, o, its.toArray, n, rfl, ho, hc, hd, rv.ints⟩, hne⟩
theorem zip_vals {pins : List (Addr × Obj)} {σ : L2.St} {H : Hp} {s : Shared} (I : Inv X pins σ H s) : ∀ {xs : List V} {us : List Value} {nss : List (List Int)}, Vals xs us → xs.length = nss.length → (∀ p ∈ xs.zip nss, IsTI X.K H p.1 p.2) →
    us.map (atI' s.heap) = nss ∧ xs = us.map backV ∧ ∀ u ∈ us, TupI s.heap u (atI' s.heap u) ∧ atI' s.heap u ≠ [] ∧ ∃ a, u = Value.ref a
  | _, _, [], .nil, _, _ => ⟨rfl, rfl, fun u hu => by simp at hu⟩
  | _, _, _ :: _, .nil, h, _ => by simp at h
  | _, _, [], .cons _ _, h, _ => by simp at h
  | x :: xs, u :: us, ns :: nss, .cons r t, h, k => by
    obtain ⟨q1, q2⟩ := tupI_of I r (k (x, ns) (by simp))
    have e := q1.eq
    obtain ⟨h1, h2, h3⟩ := zip_vals (nss := nss) I t (by simpa using h) fun p hp => k p (by simp [hp])
    obtain ⟨a, _, _, _, ea, _⟩ := id q1
    refine ⟨by rw [List.map_cons, e, h1], ?_, fun v hv => ?_⟩
    · rw [List.map_cons, ← h2]
      subst ea
      cases x with
      | ref b => cases (show Value.ref a = Value.ref b from r); rfl
      | non => cases (show Value.ref a = Value.none from r)
      | bl b => cases (show Value.ref a = Value.bool b from r)
      | ty b => cases (show Value.ref a = Value.type b from r)
      | int b => obtain ⟨_, z⟩ := r; cases z
      | str b => obtain ⟨_, z⟩ := r; cases z
      | byt b => obtain ⟨_, z⟩ := r; cases z
      | flt b => obtain ⟨_, z⟩ := r; cases z
    · rcases List.mem_cons.mp hv with rfl | hv
      · rw [e]; exact ⟨q1, q2, a, ea⟩
      · exact h3 v hv
theorem cr_sortedTI : CallR X (.builtin "sorted") (rSortTI X.K) := by
  intro pins s σ H vs us Q I r h
  obtain ⟨a, xs, nss, rfl, hs, hlen, hx, q⟩ := h
  obtain ⟨its, rv, hl, hz⟩ := I.list hs
  obtain ⟨u, rfl, ru⟩ := vals1 r
  obtain rfl : u = Value.ref a := ru
  obtain ⟨e1, e2, e3⟩ := zip_vals I rv hlen hx
  refine sorted_tupsL (atI' s.heap) hl.isList (by rw [← rv.length]; exact hz) (fun v hv => ⟨(e3 v hv).1, (e3 v hv).2.1⟩) fun h' d out h1 h2 kp hd hn => ?_
  have h3 : ∀ u ∈ out, ∃ a, u = Value.ref a := fun u hu => (e3 u (h2.perm.mem_iff.mp hu)).2.2
  obtain ⟨n, hn⟩ := hn
  have hb : (out.map backV).length ≤ sizeLine := by rw [List.length_map, h2.perm.length_eq, ← rv.length]; exact hz
  have es : out.map (atI' s.heap) = sortT nss := sortT_uniq (by rw [← e1]; exact h2.perm.map _) (List.pairwise_map.mpr h1)
  refine ⟨.ref d, upd H d (.lst (out.map backV)), I.laid (t' := s.toks) kp hd ⟨hb, out, n, vals_back h3, hn⟩, rfl, q _ d ?_ ?_ (I.hok.fresh hd)⟩
  · rw [List.length_map, h2.perm.length_eq, ← rv.length]; exact hlen
  · rw [← es, e2, ← e1, List.zip_map', List.zip_map']
    exact h2.perm.map _
def tupI1 : D → Option (List Int)
  | .tup ds => intsD ds
  | _ => none
def tupsI : List D → Option (List (List Int))
  | [] => some []
  | d :: ds => match tupI1 d, tupsI ds with
    | some ns, some nss => some (ns :: nss)
    | _, _ => none
def tupOf (ns : List Int) : D := .tup (ns.map .int)
def gSortedI : D → Option Rv
  | .lst ds => (intsD ds).bind fun ns => some (.own (.lst ((sortI ns).map .int)))
  | _ => none
def gSortedT : D → Option Rv
  | .lst ds => (tupsI ds).bind fun nss => if nss.all (fun ns => !ns.isEmpty) then some (.own (.lst ((sortT nss).map tupOf))) else none
  | _ => none
theorem fits_sortedI : FitsC X (rSortedI X.K) (uD gSortedI) := FitsC.un fun ρ σ H Z d x rv Q S h e k => by
  unfold gSortedI at e
  split at e
  · rename_i ds
    cases hn : intsD ds with
    | none => rw [hn] at e; cases e
    | some ns =>
      rw [hn] at e; cases e
      obtain ⟨a, rfl, q1⟩ := lst_ints (X := X) S.sub h (show (lstD (.lst ds)).bind intsD = some ns from hn)
      refine ⟨a, ns, rfl, q1, fun ns' p h1 h2 hp => ?_⟩
      rw [sortI_uniq h1 h2]
      exact k _ _ _ (S.new hp) (EStep.new hp) (rv_lst S hp (reps_ints _))
  · cases e
theorem tups_rep {T : Tx} {H Z : Hp} (s : Le Z H) : ∀ {ds : List D} {vs : List V} {nss : List (List Int)}, Reps T Z ds vs → tupsI ds = some nss → nss.all (fun ns => !ns.isEmpty) = true → vs.length = nss.length ∧ ∀ p ∈ vs.zip nss, IsTI T.K H p.1 p.2 ∧ Rep T Z (tupOf p.2) p.1
  | [], vs, nss, r, e, _ => by cases e; rw [show vs = [] from r]; exact ⟨rfl, fun p hp => by simp at hp⟩
  | d :: ds, _, nss, ⟨v, r, ev, q, t⟩, e, ha => by
    unfold tupsI at e
    cases h1 : tupI1 d with
    | none => rw [h1] at e; cases e
    | some ns =>
      cases h2 : tupsI ds with
      | none => rw [h1, h2] at e; cases e
      | some ms =>
        rw [h1, h2] at e; cases e
        subst ev
        rw [List.all_cons, Bool.and_eq_true] at ha
        obtain ⟨g1, g2⟩ := tups_rep s t h2 ha.2
        refine ⟨by simp [g1], fun p hp => ?_⟩
        have hp : p ∈ (v, ns) :: r.zip ms := hp
        rcases List.mem_cons.mp hp with rfl | hp
        · cases d with
          | tup es =>
            obtain ⟨a, ws, rfl, q1, r1⟩ := q
            have e1 := ints_rep r1 h1
            subst e1
            refine ⟨⟨⟨a, rfl, s.sqT q1⟩, ?_⟩, a, _, rfl, q1, reps_ints ns⟩
            intro z; subst z; simp at ha
          | _ => cases h1
        · exact g2 p hp
theorem reps_of {T : Tx} {Z : Hp} : ∀ {ys : List V} {nss : List (List Int)}, ys.length = nss.length → (∀ p ∈ ys.zip nss, Rep T Z (tupOf p.2) p.1) → Reps T Z (nss.map tupOf) ys
  | [], [], _, _ => rfl
  | [], _ :: _, h, _ => by simp at h
  | _ :: _, [], h, _ => by simp at h
  | y :: ys, ns :: nss, h, k => ⟨y, ys, rfl, k (y, ns) (by simp), reps_of (by simpa using h) fun p hp => k p (by simp [hp])⟩
theorem fits_sortedT : FitsC X (rSortTI X.K) (uD gSortedT) := FitsC.un fun ρ σ H Z d x rv Q S h e k => by
  unfold gSortedT at e
  split at e
  · rename_i ds
    cases hn : tupsI ds with
    | none => rw [hn] at e; cases e
    | some nss =>
      rw [hn] at e
      simp only [Option.bind_some] at e
      split at e
      · rename_i ha
        cases e
        obtain ⟨a, vs, rfl, q1, r1⟩ := rd_lst S.sub h
        obtain ⟨g1, g2⟩ := tups_rep S.sub r1 hn ha
        refine ⟨a, vs, nss, rfl, .inl q1, g1, fun p hp => (g2 p hp).1, fun ys p hl hp hf => ?_⟩
        refine k _ _ _ (S.new hf) (EStep.new hf) (rv_lst S hf (reps_of ?_ fun p h => (g2 p (hp.mem_iff.mp h)).2))
        rw [hl, sortT, List.length_mergeSort]
      · cases e
  · cases e
/-! ### x in a flat list or tuple -/
def vOf : D → Option V
  | .non => some .non
  | .bl b => some (.bl b)
  | .int i => some (.int i)
  | .str x => some (.str x)
  | _ => none
def vsOf : List D → Option (List V)
  | [] => some []
  | d :: ds => match vOf d, vsOf ds with
    | some v, some vs => some (v :: vs)
    | _, _ => none
def inF (a b : D) : Option Bool := match vOf a, (seqD b).bind vsOf with
  | some x, some xs => some (inV x xs)
  | _, _ => none
def oInF (a b : D) : Option Rv := (inF a b).bind vB
def oNotInF (a b : D) : Option Rv := (inF a b).bind fun k => vB (!k)
theorem vOf_ok {H Z : Hp} {x : V} {d : D} {v : V} (h : RdOk (tx X) H Z x d) (e : vOf d = some v) : x = v ∧ flatV v = true := by
  cases d with
  | non => cases e; exact ⟨rd_non h, rfl⟩
  | bl b => cases e; exact ⟨rd_bl h, rfl⟩
  | int b => cases e; exact ⟨rd_int h, rfl⟩
  | str b => cases e; exact ⟨rd_str h, rfl⟩
  | _ => cases e
theorem vsOf_ok {H Z : Hp} : ∀ {ds : List D} {vs ws : List V}, Reps (tx X) Z ds vs → vsOf ds = some ws → vs = ws ∧ ws.all flatV = true
  | [], vs, ws, r, e => by cases e; exact ⟨r, rfl⟩
  | d :: ds, _, ws, ⟨v, r, ev, q, t⟩, e => by
    unfold vsOf at e
    cases h1 : vOf d with
    | none => rw [h1] at e; cases e
    | some x =>
      cases h2 : vsOf ds with
      | none => rw [h1, h2] at e; cases e
      | some xs =>
        rw [h1, h2] at e; cases e
        obtain ⟨a1, a2⟩ := vOf_ok (X := X) (H := H) (Z := Z) (.inl q) h1
        obtain ⟨b1, b2⟩ := vsOf_ok (H := H) t h2
        subst ev
        exact ⟨by rw [a1, b1], by rw [List.all_cons, a2, b2]; rfl⟩
theorem inF_ok {H Z : Hp} {x y : V} {a b : D} {k : Bool} (s : Le Z H) (h1 : RdOk (tx X) H Z x a) (h2 : RdOk (tx X) H Z y b) (e : inF a b = some k) : ∃ p xs, y = .ref p ∧ (SqL X.K H p xs ∨ SqT X.K H p xs) ∧ flatV x = true ∧ xs.all flatV = true ∧ k = inV x xs := by
  unfold inF at e
  cases ha : vOf a with
  | none => rw [ha] at e; cases e
  | some v =>
    cases hb : (seqD b).bind vsOf with
    | none => rw [ha, hb] at e; cases e
    | some ws =>
      rw [ha, hb] at e
      cases e
      obtain ⟨rfl, f1⟩ := vOf_ok h1 ha
      cases b with
      | lst ds =>
        obtain ⟨p, vs, rfl, q, r⟩ := rd_lst s h2
        obtain ⟨rfl, f2⟩ := vsOf_ok (X := X) (H := H) r hb
        exact ⟨p, _, rfl, .inl (.inl q), f1, f2, rfl⟩
      | tup ds =>
        obtain ⟨p, vs, rfl, q, r⟩ := rd_tup s h2
        obtain ⟨rfl, f2⟩ := vsOf_ok (X := X) (H := H) r hb
        exact ⟨p, _, rfl, .inr q, f1, f2, rfl⟩
      | _ => cases hb
theorem fits_inF : Fits2 X (rIn X.K false) oInF := by
  intro ρ σ H Z dx dy x y rv Q S h1 h2 e k
  unfold oInF at e
  cases hi : inF dx dy with
  | none => rw [hi] at e; cases e
  | some b =>
    rw [hi] at e; cases e
    obtain ⟨p, xs, rfl, q1, q2, q3, rfl⟩ := inF_ok S.sub h1 h2 hi
    exact ⟨p, xs, rfl, q1, q2, q3, k _ _ _ S (.refl _ _ _ _) rfl⟩
theorem fits_notInF : Fits2 X (rIn X.K true) oNotInF := by
  intro ρ σ H Z dx dy x y rv Q S h1 h2 e k
  unfold oNotInF at e
  cases hi : inF dx dy with
  | none => rw [hi] at e; cases e
  | some b =>
    rw [hi] at e; cases e
    obtain ⟨p, xs, rfl, q1, q2, q3, rfl⟩ := inF_ok S.sub h1 h2 hi
    exact ⟨p, xs, rfl, q1, q2, q3, k _ _ _ S (.refl _ _ _ _) rfl⟩
end
end CI
end
section
set_option maxRecDepth 100000
set_option maxHeartbeats 1000000
/-! CIMod: constants of the module, defs by level, the head's hook. -/
namespace CI
open PySem L2 PyProof.Rows
/-! ### written dicts -/
def WEnts (T : Tx) : List (Key × D) → List DictEntry → Prop
  | [], es => es = []
  | (k, d) :: r, es => ∃ e es', es = e :: es' ∧ keyIs k e.key = true ∧ (∀ w, e.hash = keyH w k) ∧ (∃ v, RelV v e.val ∧ ∀ Z, Rep T Z d v) ∧ WEnts T r es'
/-- the module's name x is a written dict of these -/
structure WDct (X : Ev) (x : Str) (kvs : List (Key × D)) : Prop where
  ex : ∃ a es n, X.mg x = some (.ref a) ∧ X.K.lookup a = some ⟨.type "dict", none, .dict es n, #[]⟩ ∧ WEnts ⟨X.K, X.mg, none⟩ kvs es.toList
def lookK (k : Key) : List (Key × D) → Option D
  | [] => none
  | (k', d) :: r => if k = k' then some d else lookK k r
def keyD : D → Option Key
  | .int i => some (.inl i)
  | .str x => some (.inr x)
  | _ => none
def wgetD (kvs : List (Key × D)) (d : D) : Option Rv := (keyD d).bind fun k => (lookK k kvs).map .val
theorem keyIs_ne {k k' : Key} {v : Value} (h : keyIs k' v = true) (n : k ≠ k') : keyIs k v = false := by
  cases e : keyIs k v with
  | false => rfl
  | true =>
    rcases keyIs_shape h with ⟨i, t, rfl, rfl⟩ | ⟨x, t, rfl, rfl⟩
    · rcases keyIs_shape e with ⟨j, u, rfl, e'⟩ | ⟨y, u, rfl, e'⟩
      · injection e' with e1 _; exact absurd (by rw [e1]) n
      · exact nomatch e'
    · rcases keyIs_shape e with ⟨j, u, rfl, e'⟩ | ⟨y, u, rfl, e'⟩
      · exact nomatch e'
      · injection e' with e1 _; exact absurd (by rw [e1]) n
theorem wents_find {T : Tx} {k : Key} {d : D} : ∀ {kvs : List (Key × D)} {es : List DictEntry}, WEnts T kvs es → lookK k kvs = some d → ∃ e v, es.find? (fun e => keyIs k e.key) = some e ∧ RelV v e.val ∧ ∀ Z, Rep T Z d v
  | [], _, _, h => by cases h
  | (k', d') :: r, _, ⟨e, es', ee, q1, q2, ⟨v, rv, rp⟩, t⟩, h => by
    subst ee
    unfold lookK at h
    by_cases hk : k = k'
    · rw [if_pos hk] at h
      cases h
      subst hk
      exact ⟨e, v, by rw [List.find?_cons, q1], rv, rp⟩
    · rw [if_neg hk] at h
      obtain ⟨e2, v2, f1, f2⟩ := wents_find t h
      exact ⟨e2, v2, by rw [List.find?_cons, keyIs_ne q1 hk]; exact f1, f2⟩
theorem wents_all {T : Tx} : ∀ {kvs : List (Key × D)} {es : List DictEntry}, WEnts T kvs es → ∀ e ∈ es, ∃ k, keyIs k e.key = true ∧ ∀ w, e.hash = keyH w k
  | [], _, h, e, he => by rw [show _ = [] from h] at he; cases he
  | (k', d') :: r, _, ⟨e0, es', ee, q1, q2, _, t⟩, e, he => by
    subst ee
    rcases List.mem_cons.mp he with rfl | he
    · exact ⟨k', q1, q2⟩
    · exact wents_all t e he
def rWD (K : PySem.W.Frag) : R2 := fun x y H Q => ∃ p k es n u v, x = .ref p ∧ y = kV k ∧ K.lookup p = some ⟨.type "dict", none, .dict es n, #[]⟩ ∧ (∀ e ∈ es.toList, ∃ k, keyIs k e.key = true ∧ ∀ w, e.hash = keyH w k) ∧ findBy keyIs es k = some u ∧ RelV v u ∧ Q v H
section
variable {X : Cx} {b : Expr} {cb : Mn Rv} {x : Str} {p pos : Pos}
theorem mapOf_mix {K : PySem.W.Frag} {h : Heap} {prog : Program} {w : World} {a : Addr} {es : Array DictEntry} {n : Nat} (I : K.In h) (hl : K.lookup a = some ⟨.type "dict", none, .dict es n, #[]⟩) (hk : ∀ e ∈ es.toList, ∃ k, keyIs k e.key = true ∧ ∀ w, e.hash = keyH w k) : h.MapOf (mixKind prog w) a (fun k => findBy keyIs es k) :=
  ⟨_, es, n, I _ _ hl, ⟨rfl, rfl, rfl⟩, rfl, fun e he => by
    obtain ⟨k, e1, e2⟩ := hk e (Array.mem_toList_iff.mpr he)
    exact ⟨k, e1, e2 w⟩, fun _ => rfl⟩
theorem ix_wd : IxR X (rWD X.K) := by
  intro value slice pins s σ H x y v u Q I rx ry h hs
  obtain ⟨p, k, es, n, u0, v0, rfl, rfl, hl, hk, e, ru, q⟩ := h
  obtain rfl : v = Value.ref p := rx
  have hm := mapOf_mix (prog := X.prog) (w := X.w) I.kIn hl hk
  exact tail_any hm.typeIs slot_dict_getitem.lookup (wpAny_getItem_of (kV_is ry) hm e ⟨v0, H, I.tok _, ru, q⟩) hs
theorem se_wget {kvs : List (Key × D)} (hc : X.calm = true) (hD : WDct (ev X) x kvs) (hg : Gl X x) (hb : SE X b cb) (hdb : (x == ("__debug__" : Str)) = false := by decide) (hs : PlainIx b := by exact fun _ _ => rfl) : SE X (.Subscript (.Name x p) b pos) (cUn (wgetD kvs) cb) := by
  obtain ⟨a, es, n, hm, hl, we⟩ := hD.ex
  refine ⟨fun W tk => peI (pe_ix ix_wd (pe_glob (v := V.ref a) hg hm rfl hdb) (hb.run W tk) hs) (tE_of fun ρ σ H Z Q S p => ?_)⟩
  unfold cUn cR at p
  rw [bnd_assoc] at p
  refine ⟨ρ, Z, S, p.bnd (k1 := kE) fun r v ρ1 H1 Z1 S1 E1 o1 p1 => ?_⟩
  obtain ⟨rv, e, p2⟩ := Po.ofO p1
  unfold wgetD at e
  have rd := RvOk.read o1
  cases hk : keyD r.d with
  | none => rw [hk] at e; cases e
  | some k =>
    rw [hk] at e
    simp only [Option.bind_some] at e
    cases hl2 : lookK k kvs with
    | none => rw [hl2] at e; cases e
    | some d =>
      rw [hl2] at e; cases e
      obtain ⟨en, vv, f1, f2, f3⟩ := wents_find we hl2
      have ev : v = kV k := by
        generalize r.d = dd at hk rd
        cases dd with
        | int i => cases hk; exact rd_int rd
        | str i => cases hk; exact rd_str rd
        | _ => cases hk
      refine ⟨a, k, es, n, en.val, vv, rfl, ev, hl, wents_all we, ?_, f2, p2 vv H1 Z1 S1 (.refl _ _ _ _) (by rw [tx_calm hc]; exact f3 Z1)⟩
      unfold findBy
      rw [← Array.find?_toList, f1]
      rfl
end
/-! ### constants -/
mutual
def repB (K : PySem.W.Frag) : D → Value → Bool
  | .non, .none => true
  | .bl b, .bool c => b == c
  | .int i, .int j _ => decide (i = j)
  | .str x, .str y _ => decide (x = y)
  | .tup ds, .ref a => (match K.lookup a with
    | some ⟨.type c, _, .seq its _, _⟩ => decide (c = "tuple") && (decide (its.size ≤ sizeLine) && repsB K ds its.toList)
    | _ => false)
  | _, _ => false
def repsB (K : PySem.W.Frag) : List D → List Value → Bool
  | [], [] => true
  | d :: ds, v :: vs => repB K d v && repsB K ds vs
  | _, _ => false
end
mutual
theorem repB_ok {T : Tx} : ∀ {d : D} {u : Value}, repB T.K d u = true → ∃ v, RelV v u ∧ ∀ Z, Rep T Z d v
  | .non, u, h => by
    cases u with
    | none => exact ⟨.non, rfl, fun _ => rfl⟩
    | _ => simp [repB] at h
  | .bl b, u, h => by
    cases u with
    | bool c =>
      have h : (b == c) = true := by simpa [repB] using h
      rw [beq_iff_eq] at h
      subst h
      exact ⟨.bl b, rfl, fun _ => rfl⟩
    | _ => simp [repB] at h
  | .int b, u, h => by
    cases u with
    | int c t =>
      have h : b = c := by simpa [repB] using h
      subst h
      exact ⟨.int b, ⟨t, rfl⟩, fun _ => rfl⟩
    | _ => simp [repB] at h
  | .str b, u, h => by
    cases u with
    | str c t =>
      have h : b = c := by simpa [repB] using h
      subst h
      exact ⟨.str b, ⟨t, rfl⟩, fun _ => rfl⟩
    | _ => simp [repB] at h
  | .tup ds, u, h => by
    cases u with
    | ref a =>
      unfold repB at h
      cases q : T.K.lookup a with
      | none => rw [q] at h; cases h
      | some o =>
        obtain ⟨oc, od, dt, osl⟩ := o
        rw [q] at h
        cases oc with
        | type c =>
          cases dt with
          | seq its n =>
            have h : (decide (c = "tuple") && (decide (its.size ≤ sizeLine) && repsB T.K ds its.toList)) = true := h
            simp only [Bool.and_eq_true, decide_eq_true_eq] at h
            obtain ⟨vs, r, rp⟩ := repsB_ok h.2.2
            refine ⟨.ref a, rfl, fun Z => ⟨a, vs, rfl, .inr ⟨_, its, n, q, ?_, rfl, h.2.1, r⟩, rp Z⟩⟩
            rw [h.1]
          | _ => cases h
        | _ => cases dt <;> cases h
    | _ => simp [repB] at h
  | .lst _, u, h => by cases u <;> simp [repB] at h
  | .dic _, u, h => by cases u <;> simp [repB] at h
  | .obj _ _, u, h => by cases u <;> simp [repB] at h
  | .glo _, u, h => by cases u <;> simp [repB] at h
theorem repsB_ok {T : Tx} : ∀ {ds : List D} {us : List Value}, repsB T.K ds us = true → ∃ vs, Vals vs us ∧ ∀ Z, Reps T Z ds vs
  | [], [], _ => ⟨[], .nil, fun _ => rfl⟩
  | [], _ :: _, h => by simp [repsB] at h
  | _ :: _, [], h => by simp [repsB] at h
  | d :: ds, u :: us, h => by
    unfold repsB at h
    rw [Bool.and_eq_true] at h
    obtain ⟨v, r, rp⟩ := repB_ok h.1
    obtain ⟨vs, rs, rps⟩ := repsB_ok h.2
    exact ⟨v :: vs, .cons r rs, fun Z => ⟨v, vs, rfl, rp Z, rps Z⟩⟩
end
def cstB (K : PySem.W.Frag) (x : Str) (d : D) : Bool := match PySem.W.nsIn K mainGlobals x with
  | some (some u) => repB K d u
  | _ => false
def entsB (K : PySem.W.Frag) : List (Int × D) → List DictEntry → Bool
  | [], [] => true
  | (i, d) :: r, e :: es => (match e.key with
    | .int j _ => decide (i = j)
    | _ => false) && (decide (e.hash = hashInt i) && (repB K d e.val && entsB K r es))
  | _, _ => false
def dctB (K : PySem.W.Frag) (x : Str) (kvs : List (Int × D)) : Bool := match PySem.W.nsIn K mainGlobals x with
  | some (some (.ref a)) => (match K.lookup a with
    | some ⟨.type c, none, .dict es _, sl⟩ => decide (c = "dict") && (sl.isEmpty && entsB K kvs es.toList)
    | _ => false)
  | _ => false
def inlK (kvs : List (Int × D)) : List (Key × D) := kvs.map fun p => (.inl p.1, p.2)
theorem entsB_ok {T : Tx} : ∀ {kvs : List (Int × D)} {es : List DictEntry}, entsB T.K kvs es = true → WEnts T (inlK kvs) es
  | [], [], _ => rfl
  | [], _ :: _, h => by simp [entsB] at h
  | _ :: _, [], h => by simp [entsB] at h
  | (i, d) :: r, e :: es, h => by
    obtain ⟨eh, ek, ev⟩ := e
    unfold entsB at h
    simp only [Bool.and_eq_true, decide_eq_true_eq] at h
    obtain ⟨h1, h2, h3, h4⟩ := h
    refine ⟨_, es, rfl, ?_, fun w => h2, repB_ok h3, entsB_ok h4⟩
    cases ek with
    | int j t =>
      have h1 : i = j := by simpa using h1
      subst h1
      exact keyIs_int i t
    | _ => simp at h1
section
variable {K : PySem.W.Frag} {h : Heap} {mg : Str → Option Value} {P : Program} {w : World} {base : Heap} {A : Around} {x : Str}
theorem cst_ok {d : D} (I : K.In h) (G : h.Ns mainGlobals mg) (c : cstB K x d = true) : ∃ u v, mg x = some u ∧ RelV v u ∧ ∀ Z, Rep ⟨K, mg, none⟩ Z d v := by
  unfold cstB at c
  cases q : PySem.W.nsIn K mainGlobals x with
  | none => rw [q] at c; cases c
  | some o =>
    rw [q] at c
    cases o with
    | none => cases c
    | some u =>
      obtain ⟨v, r, rp⟩ := repB_ok (T := ⟨K, mg, none⟩) c
      exact ⟨u, v, PySem.W.mg_of I G q, r, rp⟩
theorem dct_ok {kvs : List (Int × D)} (I : K.In h) (G : h.Ns mainGlobals mg) (c : dctB K x kvs = true) : WDct ⟨P, w, K, mg, base, A⟩ x (inlK kvs) := by
  unfold dctB at c
  cases q : PySem.W.nsIn K mainGlobals x with
  | none => rw [q] at c; cases c
  | some o =>
    rw [q] at c
    cases o with
    | none => cases c
    | some u =>
      cases u with
      | ref a =>
        simp only at c
        cases q2 : K.lookup a with
        | none => rw [q2] at c; cases c
        | some o =>
          obtain ⟨oc, od, dt, osl⟩ := o
          rw [q2] at c
          cases oc with
          | type cn =>
            cases od with
            | none =>
              cases dt with
              | dict es n =>
                have c : (decide (cn = "dict") && (osl.isEmpty && entsB K kvs es.toList)) = true := c
                simp only [Bool.and_eq_true, decide_eq_true_eq] at c
                refine ⟨a, es, n, PySem.W.mg_of I G q, ?_, entsB_ok (T := ⟨K, mg, none⟩) c.2.2⟩
                rw [q2, c.1, Array.isEmpty_iff.mp c.2.1]
              | _ => cases c
            | some dd => cases dt <;> cases c
          | _ => cases od <;> cases dt <;> cases c
      | _ => cases c
/-! ### defs by level -/
theorem COk.lv {f : Addr} {fd : FuncData} {ps : List Str} {G : List Rv → Res} {n m : Nat} (hm : mg x = some (.ref f)) (kp : PySem.W.keepIn K (.ref f) = true) (hb : Binds K fd ps []) (FO : FnOk P w K mg base (L2.CX P w) (2 * n) f fd ps (spF ⟨K, mg, none⟩ G ps.length)) (hr : Room (2 * n + 1) A) (hl : ps.length = m) : COk ⟨P, w, K, mg, base, A⟩ x G m := by
  subst hl
  exact ⟨2 * n, f, fd, ps, [], [], [], G, hm, kp, hb, .nil, fun _ => rfl, fun rs => by simp, FO, by simp, hr.mono (by omega)⟩
theorem MOk.lv {C f : Addr} {fd : FuncData} {ps : List Str} {G : List Rv → Res} {n m : Nat} (hm : mg x = some (.ref C)) (M : L2.Mk K C f) (hb : Binds K fd ps []) (FO : FnOk P w K mg base (L2.CX P w) (2 * n) f fd ps (spI ⟨K, mg, none⟩ x G ps.length)) (hr : Room (2 * n + 1) A) (hl : ps.length = m + 1) (hG : ∀ rs r, G rs = .ok r → ∃ fs, r = .val (.obj x fs)) : MOk ⟨P, w, K, mg, base, A⟩ x G m :=
  ⟨2 * n, C, f, fd, ps, [], [], [], G, hm, M, hb, .nil, fun _ => rfl, fun rs => by simp, FO, by simp; omega, hr, hG⟩
theorem make_obj {tb : Str → Option Ent} {d : FnI} (ht : tb x = some (.init d)) : ∀ (n : Nat) (rs : List Rv) (r : Rv), callF tb n x rs = .ok r → ∃ fs, r = .val (.obj x fs)
  | 0, rs, r, h => by cases h
  | n + 1, rs, r, h => by
    unfold callF at h
    rw [ht] at h
    simp only at h
    unfold runInit at h
    split at h
    · unfold initEnd at h
      split at h
      · split at h
        · split at h
          · cases h; exact ⟨_, rfl⟩
          · cases h
        · cases h
      · cases h
      · cases h
    · cases h
/-- nothing is promised at level 0 -/
theorem fn_zero {tb : Str → Option Ent} {f : Addr} {fd : FuncData} {ps : List Str} {k : Nat} : FnOk P w K mg base (L2.CX P w) k f fd ps (spF ⟨K, mg, none⟩ (callF tb 0 x) ps.length) :=
  ⟨fun vs H Q E ⟨_, _, _, _, e, _⟩ => e, fun A outer s H args us vs Q E _ _ _ _ ⟨_, _, _, _, _, z⟩ => z.elim⟩
theorem init_zero {tb : Str → Option Ent} {f : Addr} {fd : FuncData} {ps : List Str} {k : Nat} : FnOk P w K mg base (L2.CX P w) k f fd ps (spI ⟨K, mg, none⟩ x (callF tb 0 x) ps.length) :=
  ⟨fun vs H Q E ⟨_, _, _, _, _, _, _, _, _, _, _, _, _, _, e, _⟩ => e, fun A outer s H args us vs Q E _ _ _ _ ⟨_, _, _, _, _, _, _, _, _, _, _, _, _, _, _, z⟩ => z.elim⟩
theorem callF_fn {tb : Str → Option Ent} {d : FnI} {n : Nat} (h : tb x = some (.fn d)) : callF tb (n + 1) x = runFn d (callF tb n) := by
  funext rs; show (match tb x with | some (.fn d) => _ | some (.init d) => _ | none => _) = _; rw [h]
theorem callF_init {tb : Str → Option Ent} {d : FnI} {n : Nat} (h : tb x = some (.init d)) : callF tb (n + 1) x = runInit x d (callF tb n) := by
  funext rs; show (match tb x with | some (.fn d) => _ | some (.init d) => _ | none => _) = _; rw [h]
/-! ### errors -/
def isecB (K : PySem.W.Frag) (D : Addr) : Bool := decide (PySem.W.findIn K (.ref D) "__getattribute__" = some (some (.builtin "BaseException.__getattribute__"))) && (decide (PySem.W.findIn K (.ref D) "__getattr__" = some none) && (decide (PySem.W.subIn K (.ref D) (.type "BaseException") = some true) && (PySem.W.hasDictIn K D &&
  (decide (PySem.W.findIn K (.ref D) "__class__" = some (some (.builtin "object.__class__"))) && (decide (PySem.W.specialIn K (.builtin "object.__class__") "__get__" = some (some (.builtin "getset_descriptor.__get__"))) && (decide (PySem.W.takesIn K (.builtin "object.__class__") = some true) && decide (PySem.W.mroIn K D (.type "object") = some true)))))))
theorem isecB_ok {D : Addr} (c : isecB K D = true) : L2.ExcC K D := by
  unfold isecB at c
  simp only [Bool.and_eq_true, decide_eq_true_eq] at c
  exact ⟨c.1, c.2.1, c.2.2.1, c.2.2.2.1, c.2.2.2.2.1, c.2.2.2.2.2.1, c.2.2.2.2.2.2.1, c.2.2.2.2.2.2.2⟩
/-- the class that a name of the text or of the language means -/
inductive Cn where
  | own (x : Str) | ty (t : String)
def Cn.v (K : PySem.W.Frag) : Cn → Value
  | .own x => .ref (He.ga K x)
  | .ty t => .type t
/-- which of these classes are of c -/
def suB (K : PySem.W.Frag) (c : Cn) (l : List (Str × Bool)) : Bool := l.all fun p => decide (PySem.W.exmOne K (.ref (He.ga K p.1)) (c.v K) = some p.2)
def isB (K : PySem.W.Frag) (c : Cn) (l : List (Str × Bool)) : Bool := l.all fun p => isecB K (He.ga K p.1) && decide (PySem.W.kitOne K (.ref (He.ga K p.1)) (c.v K) = some p.2)
def suF (l : List (Str × Bool)) (x : Str) : Option Bool := l.lookup x
theorem lookup_mem' {β : Type} {x : Str} {b : β} : ∀ {l : List (Str × β)}, l.lookup x = some b → (x, b) ∈ l
  | [], h => by cases h
  | (y, c) :: r, h => by
    rw [List.lookup_cons] at h
    cases q : (x == y) with
    | true =>
      rw [q] at h
      cases h
      rw [beq_iff_eq] at q
      subst q
      exact List.mem_cons_self
    | false => rw [q] at h; exact List.mem_cons_of_mem _ (lookup_mem' h)
theorem su_ok {c : Cn} {l : List (Str × Bool)} (hg : ∀ p ∈ l, mg p.1 = some (.ref (He.ga K p.1))) (h : suB K c l = true) : SubOk ⟨P, w, K, mg, base, A⟩ (c.v K) (suF l) := fun x C b e hm => by
  have hp := lookup_mem' e
  have h1 := List.all_eq_true.mp h _ hp
  have h2 : mg x = some (.ref (He.ga K x)) := hg _ hp
  have hm := h2.symm.trans hm
  cases hm
  exact of_decide_eq_true h1
theorem isE_ok {c : Cn} {l : List (Str × Bool)} (hg : ∀ p ∈ l, mg p.1 = some (.ref (He.ga K p.1))) (h : isB K c l = true) : IsEOk ⟨P, w, K, mg, base, A⟩ (c.v K) (suF l) := fun x C b e hm => by
  have hp := lookup_mem' e
  have h1 := List.all_eq_true.mp h _ hp
  have h2 : mg x = some (.ref (He.ga K x)) := hg _ hp
  have hm := h2.symm.trans hm
  cases hm
  rw [Bool.and_eq_true, decide_eq_true_eq] at h1
  exact ⟨isecB_ok h1.1, h1.2⟩
end
/-! ### the hook: no written lists -/
def isLst (o : Obj) : Bool := match o.cls with
  | .type t => decide (t = "list")
  | _ => false
def frN (g : Addr → Option Obj) (as : List Addr) : PySem.W.Frag := (He.frG g as).filter fun q => !isLst q.2
theorem frN_mem {g : Addr → Option Obj} {as : List Addr} {a : Addr} {o : Obj} (h : (frN g as).lookup a = some o) : g a = some o ∧ isLst o = false := by
  obtain ⟨h1, h2⟩ := List.mem_filter.mp (He.lookup_mem h)
  exact ⟨He.frG_mem h1, by simpa using h2⟩
structure SaysL (fa : List He.Fa) (fn : List He.DefD) (ex : PySem.W.Frag → Bool) (K : PySem.W.Frag) : Prop where
  d : He.SaysD fa fn K
  more : ex K = true
  nol : ∀ a o, K.lookup a = some o → isLst o = false
abbrev AlL : Type := He.AlD × Bool
def obsL (n : Nat) (fa : List He.Fa) (fn : List He.DefD) (ex : PySem.W.Frag → Bool) (g : Addr → Option Obj) : AlL := (He.obsD fa fn (frN g (He.asD g n)), ex (frN g (He.asD g n)))
def hookL (n : Nat) (fa : List He.Fa) (fn : List He.DefD) (ex : PySem.W.Frag → Bool) : PySem.W.Hook where
  α := AlL
  obs := fun s => obsL n fa fn ex s.heap.get?
  val := fun _ => (He.valD fn, true)
  says := fun _ h => ∃ K : PySem.W.Frag, K.In h ∧ SaysL fa fn ex K
  of := fun _ _ e => ⟨_, fun _ _ h => (frN_mem h).1, ⟨congrArg (fun z : AlL => z.1) e, congrArg (fun z : AlL => z.2) e, fun _ _ h => (frN_mem h).2⟩⟩
  keeps := fun _ _ _ ⟨K, hK, c⟩ k => ⟨K, PySem.W.Frag.In.keeps hK k, c⟩
theorem obsL_eq {n : Nat} {fa : List He.Fa} {fn : List He.DefD} {ex : PySem.W.Frag → Bool} {g : Addr → Option Obj} {s : Shared} (h : ∀ a, g a = s.heap.get? a) : obsL n fa fn ex g = (hookL n fa fn ex).obs s := by
  have e : g = s.heap.get? := funext h
  rw [e] <;> rfl
theorem SaysL.fact {fa : List He.Fa} {fn : List He.DefD} {ex : PySem.W.Frag → Bool} {K : PySem.W.Frag} (c : SaysL fa fn ex K) (f : He.Fa) (h : f ∈ fa) : f.ok K = true := He.SaysD.facts c.d h
/-- the law's promise at its script -/
theorem law_sp {T : Tx} {G : List Rv → Res} {H : Hp} {a : Addr} {ns : List Int} (nol : ∀ a o, T.K.lookup a = some o → isLst o = false) (hS : SqL T.K H a (ns.map V.int)) (h : G [.val (.lst (ns.map D.int))] = .ok (.val (.bl true))) : spF T G 1 [.ref a] H (fun v _ => v = .bl true) fun _ _ _ => False := by
  have r : Rd H a (.lst (ns.map V.int)) := by
    rcases hS with r | ⟨o, its, n, q, c, _⟩
    · exact r
    · have := nol a o q
      unfold isLst at this
      rw [c] at this
      simp at this
  refine ⟨H, [.val (.lst (ns.map D.int))], .refl _, ⟨⟨a, _, rfl, r, reps_ints ns⟩, trivial⟩, rfl, ?_⟩
  unfold CPost
  rw [h]
  exact fun v H' Z' _ q => q
end CI
end
section
set_option maxRecDepth 100000
/-! CIPar: a, b = x, y of names; rules joined. -/
namespace CI
open PySem L2 PyProof.Rows
def cPar (i j : Nat) (c : Mn (List D)) : Mn Fl := bnd c fun ds => match ds with
  | [d, e] => fun ρ => .ok .nx ((ρ.set i (.val d)).set j (.val e))
  | _ => stk
section
variable {X : Cx}
theorem ss_par {i j : Nat} {x y : Str} {a b : Expr} {cs : Mn (List D)} {px py pt pos : Pos} {kt k2 pt2} (hc : X.calm = true) (hN : X.N.Nodup) (hi : X.N[i]? = some x) (hj : X.N[j]? = some y) (hij : i ≠ j)
    (hx : X.env.scope.names.lookup x = some .local) (hy : X.env.scope.names.lookup y = some .local) (ha : SDs X [a, b] cs)
    (hw : swappedStores [.Tuple [.Name x px, .Name y py] kt pt] (.Tuple [a, b] k2 pt2) X.env = pure (some [x, y]))
    (hs : swapsWithSole [.Tuple [.Name x px, .Name y py] kt pt] (.Tuple [a, b] k2 pt2) pos.line X.env = pure false := by rfl) :
    SS X (.Assign [.Tuple [.Name x px, .Name y py] kt pt] (.Tuple [a, b] k2 pt2) pos) (cPar i j cs) :=
  ⟨fun W tk => psI (ps_par hc hN hi hj hij hx hy (ha.run W tk) hw hs) (tS_of fun ρ σ H Z Dn S p => ⟨ρ, Z, S, p.bnd (k := kDs) fun ds vs ρ1 H1 Z1 S1 E1 o1 p1 => by
    match ds, vs, o1, p1 with
    | [], _, _, p1 => exact p1.elim
    | [_], _, _, p1 => exact p1.elim
    | _ :: _ :: _ :: _, _, _, p1 => exact p1.elim
    | [d, e], vs, ⟨v, r, ev, q, w, r2, ew, q2, e3⟩, p1 =>
      subst ev
      subst ew
      subst e3
      refine ⟨v, w, rfl, ?_⟩
      have S2 : SOk (tx X) (ρ1.set i (.val d)) (σ.set i (some v)) H1 Z1 := S1.store (fun _ z => by cases z) ⟨v, rfl, q⟩ fun _ _ z => by cases z
      have S3 : SOk (tx X) ((ρ1.set i (.val d)).set j (.val e)) ((σ.set i (some v)).set j (some w)) H1 Z1 := S2.store (fun _ z => by cases z) ⟨w, rfl, q2⟩ fun _ _ z => by cases z
      exact p1 _ H1 Z1 S3 ((Step.store (T := tx X) (fun _ z => by cases z) fun _ z => by cases z).trans (.store (T := tx X) (fun _ z => by cases z) fun _ z => by cases z))⟩)⟩
/-! joined rules -/
def orF (f g : D → D → Option Rv) (a b : D) : Option Rv := match f a b with
  | some r => some r
  | none => g a b
theorem Fits2.or {r r' : R2} {f g : D → D → Option Rv} (h : Fits2 X r f) (h' : Fits2 X r' g) : Fits2 X (fun x y H Q => r x y H Q ∨ r' x y H Q) (orF f g) := by
  intro ρ σ H Z dx dy x y rv Q S h1 h2 e k
  unfold orF at e
  cases q : f dx dy with
  | some r0 => rw [q] at e; cases e; exact .inl (h S h1 h2 q k)
  | none => rw [q] at e; exact .inr (h' S h1 h2 e k)
def orL (f g : List D → Option Rv) (a : List D) : Option Rv := match f a with
  | some r => some r
  | none => g a
theorem FitsC.or {r r' : List V → Hp → VK → Prop} {f g : List D → Option Rv} (h : FitsC X r f) (h' : FitsC X r' g) : FitsC X (fun xs H Q => r xs H Q ∨ r' xs H Q) (orL f g) := by
  refine ⟨fun ρ σ H Z vs rs rv Q S a e k => ?_⟩
  unfold orL at e
  cases q : f (rs.map Rv.d) with
  | some r0 => rw [q] at e; cases e; exact .inl (h.run _ _ _ _ _ _ _ _ S a q k)
  | none => rw [q] at e; exact .inr (h'.run _ _ _ _ _ _ _ _ S a e k)
def inS (a b : D) : Option Bool := match a, b with
  | .str i, .str j => some (!(Builtin.Str.occurrences j i 0 j.length 1).isEmpty)
  | _, _ => none
def oInS (a b : D) : Option Rv := (inS a b).bind vB
def oNotInS (a b : D) : Option Rv := (inS a b).bind fun k => vB (!k)
theorem fits_inS : Fits2 X (fun x y H Q => ∃ i j, x = .str i ∧ y = .str j ∧ Q (.bl (!(Builtin.Str.occurrences j i 0 j.length 1).isEmpty)) H) oInS := by
  intro ρ σ H Z dx dy x y rv Q S h1 h2 e k
  unfold oInS inS at e
  split at e
  · cases e; exact ⟨_, _, rd_str h1, rd_str h2, k _ _ _ S (.refl _ _ _ _) rfl⟩
  · cases e
theorem fits_notInS : Fits2 X (fun x y H Q => ∃ i j, x = .str i ∧ y = .str j ∧ Q (.bl (!(!(Builtin.Str.occurrences j i 0 j.length 1).isEmpty))) H) oNotInS := by
  intro ρ σ H Z dx dy x y rv Q S h1 h2 e k
  unfold oNotInS inS at e
  split at e
  · cases e; exact ⟨_, _, rd_str h1, rd_str h2, k _ _ _ S (.refl _ _ _ _) rfl⟩
  · cases e
/-- in, not in -/
def oIn : D → D → Option Rv := orF oInF (orF oInL oInS)
def oNotIn : D → D → Option Rv := orF oNotInF (orF oNotInL oNotInS)
def rInA (K : PySem.W.Frag) : R2 := fun x y H Q => rIn K false x y H Q ∨ (rInD K x y H Q ∨ (∃ i j, x = .str i ∧ y = .str j ∧ Q (.bl (!(Builtin.Str.occurrences j i 0 j.length 1).isEmpty)) H))
def rNotInA (K : PySem.W.Frag) : R2 := fun x y H Q => rIn K true x y H Q ∨ (rNotInD K x y H Q ∨ (∃ i j, x = .str i ∧ y = .str j ∧ Q (.bl (!(!(Builtin.Str.occurrences j i 0 j.length 1).isEmpty))) H))
theorem op_in (hu : X.A.units + 65 < cLine) : OpR X (compareOp .In) (rInA X.K) := OpR.or op_in_seq (OpR.or (op_inD hu) op_in_str)
theorem op_notIn (hu : X.A.units + 65 < cLine) : OpR X (compareOp .NotIn) (rNotInA X.K) := OpR.or op_notIn_seq (OpR.or (op_notInD hu) op_notIn_str)
theorem fits_in : Fits2 X (rInA X.K) oIn := Fits2.or fits_inF (Fits2.or fits_inL fits_inS)
theorem fits_notIn : Fits2 X (rNotInA X.K) oNotIn := Fits2.or fits_notInF (Fits2.or fits_notInL fits_notInS)
def gSorted : List D → Option Rv := orL (uD gSortedI) (uD gSortedT)
def rSortA (K : PySem.W.Frag) : List V → Hp → VK → Prop := fun vs H Q => rSortedI K vs H Q ∨ rSortTI K vs H Q
theorem cr_sortA : CallR X (.builtin "sorted") (rSortA X.K) := CallR.or cr_sortedI cr_sortedTI
theorem fits_sorted : FitsC X (rSortA X.K) gSorted := FitsC.or fits_sortedI fits_sortedT
/-! comparisons as tests -/
def cTst (c : Mn Rv) : Mn Bool := bnd c fun r => ofO (blD r.d)
theorem tst_ok {W : WX} {c : Mn Rv} {t : TE} (h : ∀ σ H Q, tK kE (tx X) W c σ H Q → t σ H Q) : ∀ σ H Q, tK kB (tx X) W (cTst c) σ H Q → tTest t σ H Q := fun σ H Q ⟨ρ, Z, S, p⟩ => h σ H _ ⟨ρ, Z, S, p.bnd (k1 := kE) fun r v ρ1 H1 Z1 S1 E1 o1 p1 => by
  obtain ⟨k, e, p2⟩ := Po.ofO p1
  have rd := RvOk.read o1
  generalize r.d = d at e rd
  cases d with
  | bl b => cases e; exact ⟨_, rd_bl rd, Po.out (k := kB) p2 S1 rfl⟩
  | _ => cases e⟩
theorem st_cmp {op : CmpOp} {r : R2} {f : D → D → Option Rv} {a b : Expr} {ca cb : Mn Rv} {pos : Pos} (ho : OpR X (compareOp op) r) (hf : Fits2 X r f) (ha : SE X a ca) (hb : SE X b cb) (hm : behindInMarks op b = false := by rfl) : STt X (.Compare a [op] [b] pos) (cTst (cBin f ca cb)) :=
  ⟨fun W tk => ptI (pt_cmpR ho (ha.run W tk) (hb.run W tk) hm) (tst_ok (bin_ok hf))⟩
theorem chain_ok {W : WX} {r r' : R2} {f g : D → D → Option Rv} {ca cb cc : Mn Rv} (hf : Fits2 X r f) (hg : Fits2 X r' g) : ∀ σ H Q, tK kE (tx X) W (cChain f g ca cb cc) σ H Q → tChain r r' (tK kE (tx X) W ca) (tK kE (tx X) W cb) (tK kE (tx X) W cc) σ H Q := tE_of fun ρ σ H Z Q S p => ⟨ρ, Z, S, p.bnd (k1 := kE) fun r1 v1 ρ1 H1 Z1 S1 E1 o1 p1 => ⟨ρ1, Z1, S1, p1.bnd (k1 := kE) fun r2 v2 ρ2 H2 Z2 S2 E2 o2 p2 => by
    cases hq : f r1.d r2.d with
    | none => rw [hq] at p2; exact p2.elim
    | some rv =>
      rw [hq] at p2
      cases hk : blR (some rv) with
      | none => rw [hk] at p2; exact p2.elim
      | some k =>
        rw [hk] at p2
        have erv : rv = .val (.bl k) := by
          unfold blR at hk
          split at hk
          · rename_i b hb; cases hk; exact Option.some.inj hb
          · cases hk
        subst erv
        refine hf S2 ((RvOk.read o1).mono E2.same E2.step.le) (RvOk.read o2) hq fun v H' Z' S' E' o' => ⟨k, o', ?_⟩
        have p3 := p2.later E'
        cases k with
        | true =>
          refine ⟨ρ2, Z', S', Po.bnd (k1 := kE) p3 fun r3 v3 ρ3 H3 Z3 S3 E3 o3 p4 => ?_⟩
          obtain ⟨rv, e, p5⟩ := p4.ofO
          exact hg S3 ((RvOk.read o2).mono (E'.same.trans E3.same) (E'.step.le.trans E3.step.le)) (RvOk.read o3) e fun v H' Z' S' E' o' => p5 v H' Z' S' E' o'
        | false => exact Po.out (k := kE) (a := .val (.bl false)) p3 S' rfl⟩⟩
theorem st_chain {op op' : CmpOp} {r r' : R2} {f g : D → D → Option Rv} {a b c : Expr} {ca cb cc : Mn Rv} {pos : Pos} (ho : OpR X (compareOp op) r) (ho' : OpR X (compareOp op') r') (hf : Fits2 X r f) (hg : Fits2 X r' g) (ha : SE X a ca) (hb : SE X b cb) (hc : SE X c cc)
    (hm : lastMarks [op, op'] [b, c] = false := by with_unfolding_all rfl) : STt X (.Compare a [op, op'] [b, c] pos) (cTst (cChain f g ca cb cc)) :=
  ⟨fun W tk => ptI (pt_chain ho ho' (ha.run W tk) (hb.run W tk) (hc.run W tk) hm) (tst_ok (chain_ok hf hg))⟩
/-- in a def -/
theorem units_ok {A : Around} {k : Nat} (h : Room k A) : A.units + 65 < cLine := by have := h.un; omega
/-- a block's own names, checked -/
def blkB (N : List Str) (sc scope : Scope) (own : List (Str × Nat)) : Bool := decide (scope.kind = .function) && (scope.names.all (fun y => decide (scope.names.lookup y.1 = some y.2)) && (own.all (fun p => decide (N[p.2]? = some p.1)) &&
  (scope.names.all (fun y => !decide (y.2 = .free) || (decide (sc.names.lookup y.1 = some .cell) || decide (sc.names.lookup y.1 = some .free))) &&
    scope.names.all (fun y => !(decide (y.2 = .local) || decide (y.2 = .cell)) || ((own.map (·.1)).any (fun x => decide (x = y.1)) || !(N.any (fun x => decide (x = y.1))))))))
theorem blkB_ok {N : List Str} {sc scope : Scope} {own : List (Str × Nat)} (h : blkB N sc scope own = true) : L2.BlkOk N sc scope own := by
  unfold blkB at h
  simp only [Bool.and_eq_true, decide_eq_true_eq] at h
  obtain ⟨h1, h2, h3, h4, h5⟩ := h
  refine ⟨h1, fun y hy => ?_, fun p hp => ?_, fun y hy e => ?_, fun y hy e => ?_⟩
  · exact of_decide_eq_true (List.all_eq_true.mp h2 y hy)
  · exact of_decide_eq_true (List.all_eq_true.mp h3 p hp)
  · have q := List.all_eq_true.mp h4 y hy
    simp only [e, decide_true, Bool.not_true, Bool.false_or, Bool.or_eq_true, decide_eq_true_eq] at q
    exact q
  · have q := List.all_eq_true.mp h5 y hy
    have e2 : (decide (y.2 = .local) || decide (y.2 = .cell)) = true := by simpa using e
    rw [e2] at q
    simp only [Bool.not_true, Bool.false_or, Bool.or_eq_true, Bool.not_eq_true', List.any_eq_true, List.any_eq_false, decide_eq_true_eq] at q
    rcases q with ⟨x, hx, rfl⟩ | q
    · exact .inl hx
    · exact .inr fun hx => q _ hx rfl
theorem vis1 {s : Scope} {x : Str} (h : s.names.lookup x = some .local) : Vis s x := .inl h
theorem vis2 {s : Scope} {x : Str} (h : s.names.lookup x = some .cell) : Vis s x := .inr (.inl h)
theorem vis3 {s : Scope} {x : Str} (h : s.names.lookup x = some .free) : Vis s x := .inr (.inr h)
theorem loc1 {s : Scope} {x : Str} (h : s.names.lookup x = some .local) : Loc s x := .inl h
theorem loc2 {s : Scope} {x : Str} (h : s.names.lookup x = some .cell) : Loc s x := .inr h
end
end CI
end
section
set_option maxRecDepth 100000
/-! CIEnd: defs by levels, the law's end. -/
namespace CI
open PySem L2 PyProof.Rows
section
variable {P : Program} {w : World} {K : PySem.W.Frag} {mg : Str → Option Value} {base : Heap} {x y qual : Str} {params : Arguments} {body : List Stmt} {scope : Scope} {f : Addr} {fd : FuncData} {N ps : List Str} {d : FnI} {tb : Str → Option Ent} {n : Nat}
/-- what a def's derivation says -/
abbrev Der (P : Program) (w : World) (K : PySem.W.Frag) (mg : Str → Option Value) (base : Heap) (N : List Str) (qual : Str) (scope : Scope) (f : Addr) (body : List Stmt) (m : Nat) (c : Mn Fl) : Prop :=
  ∀ (cdv : Value) (A : Around) (outer : List Env) (s : Shared) (H : Hp) (E : XK), Room (2 * (m + 1) + 1) (A.deeper (envOfC qual scope s.heap.objs.size f cdv)) → SSs (cxOf (L2.CX P w) P w K mg base N qual scope f cdv A outer s H E) body c
theorem fnOk_lv (Fd : FunD K y qual params body scope [] [] f fd) (S : FnScope N ps scope) (hp : ps.length = d.np) (hN : N.length = d.ns) (ht : tb x = some (.fn d)) (n : Nat) (hb : ∀ m, n = m + 1 → Der P w K mg base N qual scope f body m (d.body (callF tb m))) :
    FnOk P w K mg base (L2.CX P w) (2 * (n + 1)) f fd ps (spF ⟨K, mg, none⟩ (callF tb n x) ps.length) := by
  cases n with
  | zero => exact fn_zero
  | succ m =>
    rw [callF_fn ht]
    exact fn_ok (k := 2 * (m + 1) + 1) Fd S hp hN fun cdv A outer s H E hr => hb m rfl cdv A outer s H E hr
theorem initOk_lv (Fd : FunD K y qual params body scope [] [] f fd) (S : FnScope N ps scope) (hp : ps.length = d.np) (hN : N.length = d.ns) (ht : tb x = some (.init d)) (n : Nat) (hb : ∀ m, n = m + 1 → Der P w K mg base N qual scope f body m (d.body (callF tb m))) :
    FnOk P w K mg base (L2.CX P w) (2 * (n + 1)) f fd ps (spI ⟨K, mg, none⟩ x (callF tb n x) ps.length) := by
  cases n with
  | zero => exact init_zero
  | succ m =>
    rw [callF_init ht]
    exact init_ok (k := 2 * (m + 1) + 1) Fd S hp hN fun cdv A outer s H E hr => hb m rfl cdv A outer s H E hr
theorem cOk_all (F : ∃ fd, FunD K y qual params body scope [] [] f fd) (S : FnScope N ps scope) (hp : ps.length = d.np) (hN : N.length = d.ns) (ht : tb x = some (.fn d)) (hm : mg x = some (.ref f)) (hbd : ∀ fd, FunD K y qual params body scope [] [] f fd → Binds K fd ps []) {k : Nat} (hk : ps.length = k)
    (hb : ∀ m, n = m + 1 → Der P w K mg base N qual scope f body m (d.body (callF tb m))) (A : Around) (hr : Room (2 * (n + 1) + 1) A) : COk ⟨P, w, K, mg, base, A⟩ x (callF tb n x) k := by
  obtain ⟨fd, Fd⟩ := F
  exact COk.lv (n := n + 1) hm Fd.kp (hbd fd Fd) (fnOk_lv Fd S hp hN ht n hb) hr hk
theorem mOk_all {C : Addr} (F : ∃ fd, FunD K y qual params body scope [] [] f fd) (S : FnScope N ps scope) (hp : ps.length = d.np) (hN : N.length = d.ns) (ht : tb x = some (.init d)) (hm : mg x = some (.ref C)) (M : L2.Mk K C f) (hbd : ∀ fd, FunD K y qual params body scope [] [] f fd → Binds K fd ps []) {k : Nat} (hk : ps.length = k + 1)
    (hb : ∀ m, n = m + 1 → Der P w K mg base N qual scope f body m (d.body (callF tb m))) (A : Around) (hr : Room (2 * (n + 1) + 1) A) : MOk ⟨P, w, K, mg, base, A⟩ x (callF tb n x) k := by
  obtain ⟨fd, Fd⟩ := F
  exact MOk.lv (n := n + 1) hm M (hbd fd Fd) (initOk_lv Fd S hp hN ht n hb) hr hk fun rs r h => make_obj ht n rs r h
/-- a law's end, its errors in the world's own terms -/
theorem walk_end {l : PySem.W.OpenLaw} {most k : Nat} {q : Program} {loose : List Str} {XP : (Str → Option Value) → Heap → Prop} {YP : World → Heap → Prop} {dr : DefRec} {x : Str}
    (h1 : l.most = some most) (h2 : most ≤ sizeLine) (h3 : dr.params.defaults = []) (h4 : Room k callerA)
    (F : ∀ (w : World) (mg : Str → Option Value) (fa : Addr) (h : Heap), YP w h → h.Ns mainGlobals mg → mg dr.name = some (.ref fa) →
      ∃ (K : PySem.W.Frag) (fd : FuncData) (sp : Sp), K.In h ∧ (∀ (s : Shared) (u : Value), BindsTo s fd ⟨[u], []⟩ [(x, u)]) ∧
        (∀ (H : Hp) (a : Addr) (ns : List Int), ns.length ≤ most → SqL K H a (ns.map V.int) → sp [.ref a] H (fun v _ => v = .bl true) fun _ _ _ => False) ∧
        ∀ base : Heap, K.In base → base.Ns mainGlobals mg → FnOk l.prog w K mg base (L2.CX l.prog w) k fa fd [x] sp) :
    PySem.W.WalkO q loose XP YP l.row.toRowW dr [] (fun f vs => PySem.call f vs) := by
  refine Att.attach_call h1 h3 fun w _ s1 mg mb fa _ _ _ _ a vs ns G Y _ _ _ hmg hob hin hle hge => ?_
  obtain ⟨K, fd, sp, KX, hbi, hsp, hF⟩ := F w mg fa _ Y G.T.g hmg
  refine law_call KX G.T.g G.T.b G.T.builtins G.T.nolimit hge hob hin (Nat.le_trans hle h2) h4 hF hbi (fun H _ hS => hsp H a ns hle hS) fun H e s2 c => ?_
  obtain ⟨_, _, _, _, _, _, _, _, _, _, _, _, z⟩ := c
  exact z
end
end CI
end
section
set_option maxRecDepth 100000
/-! CIEv: the combinators as rewriting rules; loops. -/
namespace CI
open PySem L2
section
variable {α β : Type} {ρ ρ' : En} {i j : Nat} {d : D} {r : Rv}
@[simp] theorem ev_ret (a : α) : (ret a : Mn α) ρ = .ok a ρ := by exact Eq.trans rfl rfl
@[simp] theorem ev_stk : (stk : Mn α) ρ = .stuck := by exact Eq.trans rfl rfl
def bndK (o : Out α) (f : α → Mn β) : Out β := match o with
  | .ok a ρ' => f a ρ'
  | .exc x ρ' => .exc x ρ'
  | .stuck => .stuck
@[simp] theorem bk1 (a : α) (f : α → Mn β) : bndK (.ok a ρ) f = f a ρ := by exact Eq.trans rfl rfl
@[simp] theorem bk2 (x : Exc) (f : α → Mn β) : bndK (.exc x ρ) f = .exc x ρ := by exact Eq.trans rfl rfl
@[simp] theorem bk3 (f : α → Mn β) : bndK .stuck f = .stuck := by exact Eq.trans rfl rfl
@[simp] theorem ev_bnd (m : Mn α) (f : α → Mn β) : bnd m f ρ = bndK (m ρ) f := by exact Eq.trans rfl rfl
def seqK (o : Out Fl) (b : Mn Fl) : Out Fl := match o with
  | .ok .nx ρ' => b ρ'
  | o => o
@[simp] theorem sk1 (b : Mn Fl) : seqK (.ok .nx ρ) b = b ρ := by exact Eq.trans rfl rfl
@[simp] theorem sk2 (b : Mn Fl) : seqK (.ok (.ret r) ρ) b = .ok (.ret r) ρ := by exact Eq.trans rfl rfl
@[simp] theorem sk3 (b : Mn Fl) : seqK (.ok .brk ρ) b = .ok .brk ρ := by exact Eq.trans rfl rfl
@[simp] theorem sk4 (b : Mn Fl) : seqK (.ok .cnt ρ) b = .ok .cnt ρ := by exact Eq.trans rfl rfl
@[simp] theorem sk5 (x : Exc) (b : Mn Fl) : seqK (.exc x ρ) b = .exc x ρ := by exact Eq.trans rfl rfl
@[simp] theorem sk6 (b : Mn Fl) : seqK .stuck b = .stuck := by exact Eq.trans rfl rfl
@[simp] theorem ev_ofO (a : α) : ((ofO (some a) : Mn α)) ρ = (ret a) ρ := by exact Eq.trans rfl rfl
@[simp] theorem ev_ofN : ((ofO none : Mn α)) ρ = (stk) ρ := by exact Eq.trans rfl rfl
@[simp] theorem ev_cst (d : D) : (cCst d) ρ = (ret (.val d)) ρ := by exact Eq.trans rfl rfl
@[simp] theorem ev_seq (a b : Mn Fl) : cSeq a b ρ = seqK (a ρ) b := by exact Eq.trans rfl rfl
@[simp] theorem ev_ifS (t : Mn Bool) (a b : Mn Fl) : (cIfS t a b) ρ = (bnd t fun k => if k = true then a else b) ρ := by exact Eq.trans rfl rfl
@[simp] theorem ev_cpass : (cPass) ρ = (ret .nx) ρ := by exact Eq.trans rfl rfl
@[simp] theorem ev_cR (c : Mn Rv) : (cR c) ρ = (bnd c fun r => ret r.d) ρ := by exact Eq.trans rfl rfl
@[simp] theorem ev_cV (c : Mn Rv) : (cV c) ρ = (bnd c fun r => ofO (vD r)) ρ := by exact Eq.trans rfl rfl
@[simp] theorem ev_cA (c : Mn Rv) : (cA c) ρ = (bnd c fun r => ret (aR r)) ρ := by exact Eq.trans rfl rfl
@[simp] theorem ev_vD1 : vD (.val d) = some d := by exact Eq.trans rfl rfl
@[simp] theorem ev_vD2 : vD (.own d) = some d := by exact Eq.trans rfl rfl
@[simp] theorem ev_vD3 : vD (.bor d) = none := by exact Eq.trans rfl rfl
@[simp] theorem ev_aR1 : aR (.val d) = .val d := by exact Eq.trans rfl rfl
@[simp] theorem ev_aR2 : aR (.own d) = .val d := by exact Eq.trans rfl rfl
@[simp] theorem ev_aR3 : aR (.bor d) = .bor d := by exact Eq.trans rfl rfl
@[simp] theorem ev_d1 : (Rv.val d).d = d := by exact Eq.trans rfl rfl
@[simp] theorem ev_d2 : (Rv.own d).d = d := by exact Eq.trans rfl rfl
@[simp] theorem ev_d3 : (Rv.bor d).d = d := by exact Eq.trans rfl rfl
@[simp] theorem ev_nil : ((cNil : Mn (List α))) ρ = (ret []) ρ := by exact Eq.trans rfl rfl
@[simp] theorem ev_cons (a : Mn α) (b : Mn (List α)) : (cCons a b) ρ = (bnd a fun x => bnd b fun xs => ret (x :: xs)) ρ := by exact Eq.trans rfl rfl
@[simp] theorem ev_un (f : D → Option Rv) (a : Mn Rv) : (cUn f a) ρ = (bnd (cR a) fun x => ofO (f x)) ρ := by exact Eq.trans rfl rfl
@[simp] theorem ev_bin (f : D → D → Option Rv) (a b : Mn Rv) : (cBin f a b) ρ = (bnd (cR a) fun x => bnd (cR b) fun y => ofO (f x y)) ρ := by exact Eq.trans rfl rfl
theorem ev_var : cVar i ρ = match ρ[i]? with
  | some (.val d) => .ok (.val d) ρ
  | some (.own d) => .ok (.bor d) ρ
  | some (.bor d) => .ok (.bor d) ρ
  | _ => .stuck := rfl
@[simp] theorem ev_var1 (h : ρ[i]? = some (.val d)) : cVar i ρ = .ok (.val d) ρ := by rw [ev_var, h]
@[simp] theorem ev_var2 (h : ρ[i]? = some (.own d)) : cVar i ρ = .ok (.bor d) ρ := by rw [ev_var, h]
@[simp] theorem ev_var3 (h : ρ[i]? = some (.bor d)) : cVar i ρ = .ok (.bor d) ρ := by rw [ev_var, h]
@[simp] theorem ev_frz1 (h : ρ[i]? = some (.val d)) : cFrz i ρ = .ok (.val d) ρ := by unfold cFrz; rw [h]
@[simp] theorem ev_frz2 (h : ρ[i]? = some (.own d)) : cFrz i ρ = .ok (.val d) (ρ.set i (.val d)) := by unfold cFrz; rw [h]
@[simp] theorem ev_mv1 (h : ρ[i]? = some (.val d)) : cMv i ρ = .ok (.val d) ρ := by unfold cMv; rw [h]
@[simp] theorem ev_mv2 {xs : List D} (h : ρ[i]? = some (.own (.lst xs))) : cMv i ρ = .ok (.own (.lst xs)) (ρ.set i .emp) := by unfold cMv; rw [h]; rfl
@[simp] theorem ev_ciV1 (h : ρ[i]? = some (.val d)) : ciVar i ρ = ofO (seqD d) ρ := by unfold ciVar; rw [h]
@[simp] theorem ev_ciV3 (h : ρ[i]? = some (.bor d)) : ciVar i ρ = ofO (seqD d) ρ := by unfold ciVar; rw [h]
@[simp] theorem ev_qV1 (h : ρ[i]? = some (.val d)) : qV i ρ = .ok d ρ := by unfold qV; rw [h]
@[simp] theorem ev_qV3 (h : ρ[i]? = some (.bor d)) : qV i ρ = .ok d ρ := by unfold qV; rw [h]
@[simp] theorem ev_need {xs : List D} (h : ρ[i]? = some (.own (.lst xs))) : needOwn i ρ = .ok () ρ := by unfold needOwn; rw [h]
@[simp] theorem ev_mut {f : D → Option D} {d' : D} (h : ρ[i]? = some (.own d)) (e : f d = some d') : mutU i f ρ = .ok () (ρ.set i (.own d')) := by unfold mutU; rw [h]; simp [e]
@[simp] theorem ev_app (c : Mn Rv) : cApp i c ρ = (bnd (needOwn i) fun _ => bnd (cV c) fun d => bnd (mutU i (appD d)) fun _ => ret .nx) ρ := by exact Eq.trans rfl rfl
@[simp] theorem ev_appD {xs : List D} (h : xs.length < sizeLine) : appD d (.lst xs) = some (.lst (xs ++ [d])) := by show (if _ then _ else _) = _; rw [if_pos h]
@[simp] theorem ev_sub (k : Mn Rv) : tSub i k d ρ = (bnd (needOwn i) fun _ => bnd (cR k) fun kd => mutU i (setD kd d)) ρ := by exact Eq.trans rfl rfl
theorem ixN_nat {n k : Nat} (h : k < n) : ixN n (k : Int) = some k := by unfold ixN; rw [if_pos (by omega), if_pos (by omega)]; simp
@[simp] theorem ev_setD {xs : List D} {k : Nat} (h : k < xs.length) : setD (.int (k : Int)) d (.lst xs) = some (.lst (xs.set k d)) := by
  show (ixN xs.length (k : Int)).map _ = _
  rw [ixN_nat h]; rfl
@[simp] theorem ev_sd1 (xs : List D) : seqD (.lst xs) = some xs := by exact Eq.trans rfl rfl
@[simp] theorem ev_sd2 (xs : List D) : seqD (.tup xs) = some xs := by exact Eq.trans rfl rfl
@[simp] theorem ev_rg1 (c : Mn Rv) : (ciRg1 c) ρ = (bnd (cCons (cA c) cNil) fun rs => match rs with
  | [r] => ofO (rg1 r.d)
  | _ => stk) ρ := by exact Eq.trans rfl rfl
@[simp] theorem ev_rg2 (a b : Mn Rv) : (ciRg2 a b) ρ = (bnd (cCons (cA a) (cCons (cA b) cNil)) fun rs => match rs with
  | [r, q] => ofO (rg2 r.d q.d)
  | _ => stk) ρ := by exact Eq.trans rfl rfl
@[simp] theorem ev_as1 : argSl (.val d) = .val d := by exact Eq.trans rfl rfl
@[simp] theorem ev_as2 : argSl (.bor d) = .bor d := by exact Eq.trans rfl rfl
@[simp] theorem ev_start (ns : Nat) (rs : List Rv) : startE ns rs = rs.map argSl ++ List.replicate (ns - rs.length) .emp := by exact Eq.trans rfl rfl
@[simp] theorem ev_ro1 : resOf (.ok (.ret (.val d)) ρ) = .ok (.val d) := by exact Eq.trans rfl rfl
@[simp] theorem ev_ro2 : resOf (.ok (.ret (.own d)) ρ) = .ok (.own d) := by exact Eq.trans rfl rfl
@[simp] theorem ev_ro3 : resOf (.ok .nx ρ) = .ok (.val .non) := by exact Eq.trans rfl rfl
@[simp] theorem ev_ro4 (x : Exc) : resOf (.exc x ρ) = .exc x := by exact Eq.trans rfl rfl
@[simp] theorem ev_tr (c : Mn Rv) : (cTr c) ρ = (bnd c fun r => ofO (truD r.d)) ρ := by exact Eq.trans rfl rfl
@[simp] theorem ev_tst (c : Mn Rv) : (cTst c) ρ = (bnd c fun r => ofO (blD r.d)) ρ := by exact Eq.trans rfl rfl
@[simp] theorem ev_not (c : Mn Bool) : (cNot c) ρ = (bnd c fun k => ret (!k)) ρ := by exact Eq.trans rfl rfl
@[simp] theorem ev_and (a b : Mn Bool) : (cAnd a b) ρ = (bnd a fun k => if k = true then b else ret false) ρ := by exact Eq.trans rfl rfl
@[simp] theorem ev_or (a b : Mn Bool) : (cOr a b) ρ = (bnd a fun k => if k = true then ret true else b) ρ := by exact Eq.trans rfl rfl
@[simp] theorem ev_notV (a : Mn Rv) : (cNotV a) ρ = (bnd a fun r => bnd (ofO (blD r.d)) fun k => ret (.val (.bl (!k)))) ρ := by exact Eq.trans rfl rfl
@[simp] theorem ev_andV (a b : Mn Rv) : (cAndV a b) ρ = (bnd a fun r => bnd (ofO (blD r.d)) fun k => if k = true then b else ret (.val (.bl false))) ρ := by exact Eq.trans rfl rfl
@[simp] theorem ev_orV (a b : Mn Rv) : (cOrV a b) ρ = (bnd a fun r => bnd (ofO (blD r.d)) fun k => if k = true then ret (.val (.bl true)) else b) ρ := by exact Eq.trans rfl rfl
@[simp] theorem ev_if (t : Mn Bool) (a b : Mn Rv) : (cIf t a b) ρ = (bnd t fun k => if k = true then a else b) ρ := by exact Eq.trans rfl rfl
@[simp] theorem ev_bl (b : Bool) : blD (.bl b) = some b := by exact Eq.trans rfl rfl
@[simp] theorem ev_tbl (b : Bool) : truD (.bl b) = some b := by exact Eq.trans rfl rfl
@[simp] theorem ev_expr (c : Mn Rv) : (cExpr c) ρ = (bnd c fun _ => ret .nx) ρ := by exact Eq.trans rfl rfl
@[simp] theorem ev_cret (c : Mn Rv) : (cRet c) ρ = (bnd c retR) ρ := by exact Eq.trans rfl rfl
@[simp] theorem ev_retR1 : (retR (.val d)) ρ = (ret (.ret (.val d))) ρ := by exact Eq.trans rfl rfl
@[simp] theorem ev_retR2 : (retR (.own d)) ρ = (ret (.ret (.own d))) ρ := by exact Eq.trans rfl rfl
@[simp] theorem ev_retR3 : (retR (.bor d)) ρ = (stk) ρ := by exact Eq.trans rfl rfl
@[simp] theorem ev_retN : (cRetN) ρ = (ret (.ret (.val .non))) ρ := by exact Eq.trans rfl rfl
@[simp] theorem ev_set (c : Mn Rv) : (cSet i c) ρ = (bnd c fun r ρ => match slOf r with
  | some s => .ok .nx (ρ.set i s)
  | none => .stuck) ρ := by exact Eq.trans rfl rfl
@[simp] theorem ev_sl1 : slOf (.val d) = some (.val d) := by exact Eq.trans rfl rfl
@[simp] theorem ev_sl2 : slOf (.own d) = some (.own d) := by exact Eq.trans rfl rfl
@[simp] theorem ev_setT (t : Tg) (c : Mn D) : (cSetT t c) ρ = (bnd c fun d => bnd (t d) fun _ => ret .nx) ρ := by exact Eq.trans rfl rfl
@[simp] theorem ev_tNm : tNm i d ρ = .ok () (ρ.set i (.val d)) := by exact Eq.trans rfl rfl
@[simp] theorem ev_tAll0 : (tAll [] []) ρ = (ret ()) ρ := by exact Eq.trans rfl rfl
@[simp] theorem ev_tAll1 (t : Tg) (ts : List Tg) (d : D) (ds : List D) : (tAll (t :: ts) (d :: ds)) ρ = (bnd (t d) fun _ => tAll ts ds) ρ := by exact Eq.trans rfl rfl
@[simp] theorem ev_tTup (ts : List Tg) (ds : List D) : (tTup ts (.tup ds)) ρ = (if ds.length = ts.length then tAll ts ds else stk) ρ := by exact Eq.trans rfl rfl
@[simp] theorem ev_blt (f : List D → Option Rv) (cs : Mn (List Rv)) : (cBlt f cs) ρ = (bnd cs fun rs => ofO (f (rs.map Rv.d))) ρ := by exact Eq.trans rfl rfl
@[simp] theorem ev_uD (g : D → Option Rv) (a : D) : uD g [a] = g a := by exact Eq.trans rfl rfl
@[simp] theorem ev_bD (g : D → D → Option Rv) (a b : D) : bD g [a, b] = g a b := by exact Eq.trans rfl rfl
@[simp] theorem ev_call (G : List Rv → Res) (cs : Mn (List Rv)) : (cCallG G cs) ρ = (bnd cs fun rs => ofRes (G rs)) ρ := by exact Eq.trans rfl rfl
@[simp] theorem ev_res1 : (ofRes (.ok r)) ρ = (ret r) ρ := by exact Eq.trans rfl rfl
@[simp] theorem ev_res2 (x : Exc) : ofRes (.exc x) ρ = .exc x ρ := by exact Eq.trans rfl rfl
@[simp] theorem ev_tup (c : Mn (List D)) : (cTup c) ρ = (bnd c fun ds => if sz ds.length = true then ret (.val (.tup ds)) else stk) ρ := by exact Eq.trans rfl rfl
@[simp] theorem ev_lst (c : Mn (List D)) : (cLst c) ρ = (bnd c fun ds => if sz ds.length = true then ret (.own (.lst ds)) else stk) ρ := by exact Eq.trans rfl rfl
@[simp] theorem ev_cSl (c : Mn Rv) (l h : Mn (Option Int)) : (cSl c l h) ρ = (bnd c fun r => bnd l fun lo => bnd h fun hi => ofO (slD r.d lo hi)) ρ := by exact Eq.trans rfl rfl
@[simp] theorem ev_part (c : Mn Rv) : (cPart c) ρ = (bnd c fun r => ofO (oI r.d)) ρ := by exact Eq.trans rfl rfl
@[simp] theorem ev_nopart : (cNoPart) ρ = (ret none) ρ := by exact Eq.trans rfl rfl
@[simp] theorem ev_yes : (cYes) ρ = (ret true) ρ := by exact Eq.trans rfl rfl
@[simp] theorem ev_fld (cs : List Str) (f : Str) (c : Mn Rv) : (cFld cs f c) ρ = (bnd c fun r => bnd (ofO (fldD cs f r.d)) fun d => ret (.val d)) ρ := by exact Eq.trans rfl rfl
@[simp] theorem ev_for (it : Mn (List D)) (t : Tg) (body : Mn Fl) : (cFor it t body) ρ = (bnd it fun ds => forL t body ds) ρ := by exact Eq.trans rfl rfl
@[simp] theorem ev_ciSeq (c : Mn Rv) : (ciSeq c) ρ = (bnd c fun r => ofO (seqR r)) ρ := by exact Eq.trans rfl rfl
@[simp] theorem ev_seq1 (xs : List D) : seqR (.val (.lst xs)) = some xs := by exact Eq.trans rfl rfl
@[simp] theorem ev_seq2 (xs : List D) : seqR (.own (.lst xs)) = some xs := by exact Eq.trans rfl rfl
@[simp] theorem ev_seq3 (xs : List D) : seqR (.val (.tup xs)) = some xs := by exact Eq.trans rfl rfl
/-! values -/
@[simp] theorem v_vI (a : Int) : vI a = some (.val (.int a)) := by exact Eq.trans rfl rfl
@[simp] theorem v_vB (a : Bool) : vB a = some (.val (.bl a)) := by exact Eq.trans rfl rfl
@[simp] theorem v_vS (a : Str) : vS a = some (.val (.str a)) := by exact Eq.trans rfl rfl
@[simp] theorem v_add (a b : Int) : oAdd (.int a) (.int b) = some (.val (.int (a + b))) := by exact Eq.trans rfl rfl
@[simp] theorem v_sub (a b : Int) : oSub (.int a) (.int b) = some (.val (.int (a - b))) := by exact Eq.trans rfl rfl
@[simp] theorem v_mul (a b : Int) : oMul (.int a) (.int b) = if mulOk a b then some (.val (.int (a * b))) else none := by exact Eq.trans rfl rfl
@[simp] theorem v_fdiv (a b : Int) : oFdiv (.int a) (.int b) = if divOk b then some (.val (.int (a.fdiv b))) else none := by exact Eq.trans rfl rfl
@[simp] theorem v_mod (a b : Int) : oMod (.int a) (.int b) = if b ≠ 0 then some (.val (.int (a.fmod b))) else none := by exact Eq.trans rfl rfl
@[simp] theorem v_neg (a : Int) : oNeg (.int a) = some (.val (.int (-a))) := by exact Eq.trans rfl rfl
@[simp] theorem v_lt (a b : Int) : oLt (.int a) (.int b) = some (.val (.bl (decide (a < b)))) := by exact Eq.trans rfl rfl
@[simp] theorem v_le (a b : Int) : oLe (.int a) (.int b) = some (.val (.bl (decide (a ≤ b)))) := by exact Eq.trans rfl rfl
@[simp] theorem v_gt (a b : Int) : oGt (.int a) (.int b) = some (.val (.bl (decide (b < a)))) := by exact Eq.trans rfl rfl
@[simp] theorem v_ge (a b : Int) : oGe (.int a) (.int b) = some (.val (.bl (decide (b ≤ a)))) := by exact Eq.trans rfl rfl
@[simp] theorem v_len1 (xs : List D) : gLen (.lst xs) = some (.val (.int xs.length)) := by exact Eq.trans rfl rfl
@[simp] theorem v_len2 (xs : List D) : gLen (.tup xs) = some (.val (.int xs.length)) := by exact Eq.trans rfl rfl
@[simp] theorem v_int (a : Int) : gInt (.int a) = some (.val (.int a)) := by exact Eq.trans rfl rfl
@[simp] theorem v_intb (b : Bool) : gInt (.bl b) = some (.val (.int (if b then 1 else 0))) := by exact Eq.trans rfl rfl
@[simp] theorem v_abs (a : Int) : gAbs (.int a) = some (.val (.int (if a < 0 then -a else a))) := by exact Eq.trans rfl rfl
@[simp] theorem v_max (a b : Int) : gMax2 (.int a) (.int b) = some (.val (.int (if b > a then b else a))) := by exact Eq.trans rfl rfl
@[simp] theorem v_list1 (xs : List D) : gList (.lst xs) = some (.own (.lst xs)) := by exact Eq.trans rfl rfl
@[simp] theorem v_list2 (xs : List D) : gList (.tup xs) = some (.own (.lst xs)) := by exact Eq.trans rfl rfl
@[simp] theorem v_tup1 (xs : List D) : gTuple (.lst xs) = some (.val (.tup xs)) := by exact Eq.trans rfl rfl
@[simp] theorem v_tup2 (xs : List D) : gTuple (.tup xs) = some (.val (.tup xs)) := by exact Eq.trans rfl rfl
theorem atI_nat {γ : Type} (xs : List γ) (k : Nat) : atI xs (k : Int) = xs[k]? := by
  unfold atI ixN
  by_cases h : k < xs.length
  · rw [if_pos (by omega), if_pos (by omega)]
    simp
  · rw [if_pos (by omega), if_neg (by omega), List.getElem?_eq_none (by omega)]
    rfl
@[simp] theorem v_ix1 (xs : List D) (k : Nat) : ixD (.lst xs) (.int (k : Int)) = xs[k]?.map Rv.val := by
  show (atI xs (k : Int)).map Rv.val = _
  rw [atI_nat]
@[simp] theorem v_ix2 (xs : List D) (k : Nat) : ixD (.tup xs) (.int (k : Int)) = xs[k]?.map Rv.val := by
  show (atI xs (k : Int)).map Rv.val = _
  rw [atI_nat]
@[simp] theorem rgD_len (lo : Int) (n : Nat) : (rgD lo n).length = n := by simp [rgD]
theorem sz_ok {k : Nat} (h : k ≤ sizeLine) : sz k = true := by unfold sz; exact decide_eq_true h
@[simp] theorem sz_0 : sz 0 = true := sz_ok (Nat.zero_le _)
theorem call_fn {tb : Str → Option Ent} {x : Str} {d : FnI} {n : Nat} {rs : List Rv} (ht : tb x = some (.fn d)) (h : rs.length = d.np) : callF tb (n + 1) x rs = resOf (d.body (callF tb n) (startE d.ns rs)) := by
  rw [callF_fn ht]
  unfold runFn
  rw [if_pos h]
theorem call_init {tb : Str → Option Ent} {x : Str} {d : FnI} {n : Nat} {rs : List Rv} (ht : tb x = some (.init d)) (h : rs.length + 1 = d.np) : callF tb (n + 1) x rs = initEnd x (d.body (callF tb n) (.own (.obj x []) :: startE (d.ns - 1) rs)) := by
  rw [callF_init ht]
  unfold runInit
  rw [if_pos h]
@[simp] theorem v_eqI (a b : Int) : oEq (.int a) (.int b) = some (.val (.bl (decide (a = b)))) := by
  have h1 : SeqAt.shaped (.int a) = true := rfl
  have h2 : SeqAt.shaped (.int b) = true := rfl
  have h3 : PyData.eqv (.int a) (.int b) = (a == b) := by simp [PyData.eqv]
  simp only [oEq, eqD, pyOf, h1, h2, h3, Bool.and_self, if_true, Option.bind_some, v_vB]
  rfl
@[simp] theorem v_neI (a b : Int) : oNe (.int a) (.int b) = some (.val (.bl (!decide (a = b)))) := by
  have h1 : SeqAt.shaped (.int a) = true := rfl
  have h2 : SeqAt.shaped (.int b) = true := rfl
  have h3 : PyData.eqv (.int a) (.int b) = (a == b) := by simp [PyData.eqv]
  simp only [oNe, eqD, pyOf, h1, h2, h3, Bool.and_self, if_true, Option.bind_some, v_vB]
  rfl
/-! loops -/
/-- a for loop by what holds between its turns -/
theorem forL_inv {t : Tg} {body : Mn Fl} {ds : List D} (I : Nat → En → Prop) : ∀ {i : Nat} {ρ : En}, I i ρ → (∀ (k : Nat) (d : D) (ρ : En), i ≤ k → ds[k - i]? = some d → I k ρ → ∃ ρ1 ρ2, t d ρ = .ok () ρ1 ∧ body ρ1 = .ok .nx ρ2 ∧ I (k + 1) ρ2) → ∃ ρ', forL t body ds ρ = .ok .nx ρ' ∧ I (i + ds.length) ρ' := by
  induction ds with
  | nil => intro i ρ h _; exact ⟨ρ, rfl, h⟩
  | cons d ds ih =>
    intro i ρ h hs
    obtain ⟨ρ1, ρ2, h1, h2, h3⟩ := hs i d ρ (Nat.le_refl _) (by simp) h
    obtain ⟨ρ', e, q⟩ := ih (i := i + 1) h3 fun k d ρ hk hd hi => hs k d ρ (by omega) (by
      rw [show k - i = (k - (i + 1)) + 1 by omega]
      simpa using hd) hi
    refine ⟨ρ', ?_, by rw [List.length_cons]; rw [show i + (ds.length + 1) = i + 1 + ds.length by omega]; exact q⟩
    unfold forL
    simp only [ev_bnd, h1, bk1, h2]
    exact e
/-- a comprehension whose turns give g -/
theorem lcL_fm {t : Tn} {cond : Mn Bool} {elt : Mn Rv} {vs : List Nat} (g : D → Option D) : ∀ {ds acc : List D} {ρ : En}, acc.length + ds.length ≤ sizeLine → (∀ d ∈ ds, ∃ ρ1 ρ2, setTn t d ρ = some ρ1 ∧ lcTurn cond elt ρ1 = some (g d, ρ2) ∧ wipeE ρ2 vs = ρ) → lcL t cond elt vs ds acc ρ = some (acc ++ ds.filterMap g, ρ)
  | [], acc, ρ, _, _ => by simp [lcL]
  | d :: ds, acc, ρ, hz, h => by
    obtain ⟨ρ1, ρ2, h1, h2, h3⟩ := h d List.mem_cons_self
    have hz' : acc.length + (ds.length + 1) ≤ sizeLine := hz
    unfold lcL
    rw [h1, Option.bind_some, h2, Option.bind_some]
    cases hg : g d with
    | none =>
      simp only
      rw [h3, lcL_fm g (by omega) fun d hd => h d (List.mem_cons_of_mem _ hd), List.filterMap_cons, hg]
    | some y =>
      simp only
      rw [if_pos (by omega), h3, lcL_fm g (by simp; omega) fun d hd => h d (List.mem_cons_of_mem _ hd), List.filterMap_cons, hg]
      simp
theorem ev_lc {it : Mn (List D)} {t : Tn} {cond : Mn Bool} {elt : Mn Rv} {vs : List Nat} {ds : List D} {ρ ρ1 : En} {q : List D × En} (h1 : it ρ = .ok ds ρ1) (h2 : (okOwn ρ1 vs && t.ix.all fun i => vs.contains i) = true) (h3 : lcL t cond elt vs ds [] (wipeE ρ1 vs) = some q) : cLc it t cond elt vs ρ = .ok (.own (.lst q.1)) (restE ρ1 q.2 vs) := by
  unfold cLc
  rw [ev_bnd, h1, bk1]
  simp only [h3]
  rw [if_pos h2]
theorem lcL_map {t : Tn} {elt : Mn Rv} {vs : List Nat} (g : D → D) {ds acc : List D} {ρ : En} (hz : acc.length + ds.length ≤ sizeLine) (h : ∀ d ∈ ds, ∃ ρ1 ρ2, setTn t d ρ = some ρ1 ∧ cV elt ρ1 = .ok (g d) ρ2 ∧ wipeE ρ2 vs = ρ) : lcL t cYes elt vs ds acc ρ = some (acc ++ ds.map g, ρ) := by
  have := lcL_fm (t := t) (cond := cYes) (elt := elt) (vs := vs) (fun d => some (g d)) hz fun d hd => by
    obtain ⟨ρ1, ρ2, h1, h2, h3⟩ := h d hd
    refine ⟨ρ1, ρ2, h1, ?_, h3⟩
    unfold lcTurn
    simp only [ev_yes, ev_ret, h2]
  rw [this]
  simp
/-- one name as the target, a state that stands -/
theorem lcL_nm {i : Nat} {elt : Mn Rv} (g : D → D) {ds : List D} {ρ : En} (he : ρ[i]? = some .emp) (hz : ds.length ≤ sizeLine) (h : ∀ d ∈ ds, cV elt (ρ.set i (.val d)) = .ok (g d) (ρ.set i (.val d))) : lcL (.nm i) cYes elt [i] ds [] ρ = some (ds.map g, ρ) := by
  have := lcL_map (t := .nm i) (elt := elt) (vs := [i]) g (ds := ds) (acc := []) (ρ := ρ) (by simpa using hz) fun d hd => ⟨_, _, rfl, h d hd, by
    show ((ρ.set i (.val d)).set i .emp) = ρ
    rw [List.set_set]
    apply List.ext_getElem?
    intro j
    by_cases hj : i = j
    · subst hj
      have hl : i < ρ.length := by
        rcases Nat.lt_or_ge i ρ.length with w | w
        · exact w
        · rw [List.getElem?_eq_none w] at he; cases he
      rw [List.getElem?_set_self hl, he]
    · rw [List.getElem?_set_ne hj]⟩
  simpa using this
end
end CI
end
section
set_option maxRecDepth 100000
/-! CIEq: comparing tuples of ints, looking for them in lists. -/
namespace CI
open PySem L2 PyProof.Rows
def pI (v : List Int) : PyData := .tuple (v.map .int)
theorem py_ints : ∀ v : List Int, pyAll (v.map D.int) = some (v.map PyData.int)
  | [] => rfl
  | a :: v => by
    show (match pyOf (.int a), pyAll (v.map D.int) with
      | some x, some xs => some (x :: xs)
      | _, _ => none) = _
    rw [py_ints v]; rfl
theorem py_tup (v : List Int) : pyOf (.tup (v.map D.int)) = some (pI v) := by
  show (pyAll (v.map D.int)).map PyData.tuple = _
  rw [py_ints]; rfl
theorem py_tups : ∀ F : List (List Int), pyAll (F.map fun v => D.tup (v.map D.int)) = some (F.map pI)
  | [] => rfl
  | a :: v => by
    show (match pyOf (.tup (a.map D.int)), pyAll (v.map fun v => D.tup (v.map D.int)) with
      | some x, some xs => some (x :: xs)
      | _, _ => none) = _
    rw [py_tups v, py_tup]; rfl
theorem lay_ints : ∀ v : List Int, PyData.canLayAll0 (v.map PyData.int) = true
  | [] => by simp [PyData.canLayAll0]
  | a :: v => by simp [PyData.canLayAll0, PyData.canLay0]; exact lay_ints v
theorem dep_ints : ∀ v : List Int, PyData.depthAll (v.map PyData.int) ≤ 1
  | [] => by simp [PyData.depthAll]
  | a :: v => by simp [PyData.depthAll, PyData.depth]; exact dep_ints v
theorem lay_tups : ∀ F : List (List Int), PyData.canLayAll0 (F.map pI) = true
  | [] => by simp [PyData.canLayAll0]
  | a :: v => by simp [PyData.canLayAll0, PyData.canLay0, pI, lay_ints]; exact lay_tups v
theorem dep_tups : ∀ F : List (List Int), PyData.depthAll (F.map pI) ≤ 3
  | [] => by simp [PyData.depthAll]
  | a :: v => by
    have := dep_ints a
    simp [PyData.depthAll, PyData.depth, pI]
    have h2 := dep_tups v
    omega
theorem sh_tup (v : List Int) : SeqAt.shaped (pI v) = true := by
  have := dep_ints v
  simp [SeqAt.shaped, pI, PyData.canLay0, PyData.depth, lay_ints]
  omega
theorem sh_tups (F : List (List Int)) : SeqAt.shaped (.list (F.map pI)) = true := by
  have := dep_tups F
  simp [SeqAt.shaped, PyData.canLay0, PyData.depth, lay_tups]
  omega
theorem eqv_ints : ∀ v w : List Int, PyData.eqvAll (v.map PyData.int) (w.map PyData.int) = decide (v = w)
  | [], [] => by simp [PyData.eqvAll]
  | [], _ :: _ => by simp [PyData.eqvAll]
  | _ :: _, [] => by simp [PyData.eqvAll]
  | a :: v, b :: w => by
    simp only [List.map_cons, PyData.eqvAll, PyData.eqv, eqv_ints v w, List.cons.injEq]
    by_cases h : a = b <;> simp [h]
theorem eqv_tup (v w : List Int) : PyData.eqv (pI v) (pI w) = decide (v = w) := by
  unfold pI; rw [PyData.eqv, eqv_ints]
theorem v_eqT (v w : List Int) : oEq (.tup (v.map .int)) (.tup (w.map .int)) = some (.val (.bl (decide (v = w)))) := by
  unfold oEq eqD
  rw [py_tup, py_tup]
  simp [sh_tup, eqv_tup]
theorem v_neT (v w : List Int) : oNe (.tup (v.map .int)) (.tup (w.map .int)) = some (.val (.bl (!decide (v = w)))) := by
  unfold oNe eqD
  rw [py_tup, py_tup]
  simp [sh_tup, eqv_tup]
theorem v_inT (v : List Int) (F : List (List Int)) : inD (.tup (v.map .int)) (.lst (F.map fun v => .tup (v.map .int))) = some (decide (v ∈ F)) := by
  unfold inD
  rw [py_tup, show pyOf (.lst (F.map fun v => D.tup (v.map D.int))) = some (.list (F.map pI)) by
    show (pyAll _).map PyData.list = _
    rw [py_tups]; rfl]
  simp only [sh_tup, sh_tups, Bool.and_self, if_true]
  congr 1
  rw [List.any_map]
  induction F with
  | nil => simp
  | cons w F ih =>
    rw [List.any_cons, ih]
    simp only [Function.comp, eqv_tup, List.mem_cons]
    by_cases h : v = w
    · subst h; simp
    · have : ¬ w = v := fun e => h e.symm
      simp [h, this]
theorem v_notInT (v : List Int) (F : List (List Int)) : oNotIn (.tup (v.map .int)) (.lst (F.map fun v => .tup (v.map .int))) = some (.val (.bl (!decide (v ∈ F)))) := by
  have h1 : oNotInF (.tup (v.map .int)) (.lst (F.map fun v => .tup (v.map .int))) = none := rfl
  have h2 : oNotInL (.tup (v.map .int)) (.lst (F.map fun v => .tup (v.map .int))) = some (.val (.bl (!decide (v ∈ F)))) := by
    unfold oNotInL
    rw [v_inT]; rfl
  unfold oNotIn orF
  rw [h1]
  simp only
  rw [h2]
end CI
end
section
set_option maxRecDepth 100000
/-! CIEv2: loops and comprehensions, over lists of any kind of thing. -/
namespace CI
open PySem L2 PyProof.Rows
section
variable {S β : Type} {t : Tg} {body : Mn Fl} {ρ ρ1 : En} {i j : Nat}
theorem forL_cnx {d : D} {ds : List D} {ρ ρ1 ρ2 : En} (h1 : t d ρ = .ok () ρ1) (h2 : body ρ1 = .ok .nx ρ2 ∨ body ρ1 = .ok .cnt ρ2) : forL t body (d :: ds) ρ = forL t body ds ρ2 := by
  show bnd (t d) _ ρ = _
  rcases h2 with h2 | h2
  · rw [ev_bnd, h1, bk1, h2]
  · rw [ev_bnd, h1, bk1, h2]
theorem forL_cret {d : D} {ds : List D} {ρ ρ1 ρ2 : En} {r : Rv} (h1 : t d ρ = .ok () ρ1) (h2 : body ρ1 = .ok (.ret r) ρ2) : forL t body (d :: ds) ρ = .ok (.ret r) ρ2 := by
  show bnd (t d) _ ρ = _
  rw [ev_bnd, h1, bk1, h2]
theorem forL_cbrk {d : D} {ds : List D} {ρ ρ1 ρ2 : En} (h1 : t d ρ = .ok () ρ1) (h2 : body ρ1 = .ok .brk ρ2) : forL t body (d :: ds) ρ = .ok .nx ρ2 := by
  show bnd (t d) _ ρ = _
  rw [ev_bnd, h1, bk1, h2]
theorem forL_cexc {d : D} {ds : List D} {ρ ρ1 ρ2 : En} {x : Exc} (h1 : t d ρ = .ok () ρ1) (h2 : body ρ1 = .exc x ρ2) : forL t body (d :: ds) ρ = .exc x ρ2 := by
  show bnd (t d) _ ρ = _
  rw [ev_bnd, h1, bk1, h2]
/-- a loop as a fold over what its slots hold -/
theorem forL_st (st : S → En) (inj : β → D) (f : S → β → S) (P : S → Prop) : ∀ (xs : List β) (a : S), P a → (∀ x ∈ xs, ∀ a, P a → (∃ ρ1, t (inj x) (st a) = .ok () ρ1 ∧ (body ρ1 = .ok .nx (st (f a x)) ∨ body ρ1 = .ok .cnt (st (f a x)))) ∧ P (f a x)) →
    forL t body (xs.map inj) (st a) = .ok .nx (st (xs.foldl f a)) ∧ P (xs.foldl f a)
  | [], a, p, _ => ⟨rfl, p⟩
  | x :: xs, a, p, h => by
    obtain ⟨⟨ρ1, h1, h2⟩, h3⟩ := h x List.mem_cons_self a p
    rw [List.map_cons, forL_cnx h1 h2]
    exact forL_st st inj f P xs (f a x) h3 fun y hy => h y (List.mem_cons_of_mem _ hy)
/-- a loop that looks at each and leaves at the first bad one -/
theorem forL_chk (st : En → Prop) (inj : β → D) (q : β → Bool) (r : Rv) : ∀ (xs : List β) (ρ : En), st ρ → (∀ x ∈ xs, ∀ ρ, st ρ → ∃ ρ1, t (inj x) ρ = .ok () ρ1 ∧ (q x = true → ∃ ρ2, (body ρ1 = .ok .nx ρ2 ∨ body ρ1 = .ok .cnt ρ2) ∧ st ρ2) ∧ (q x = false → ∃ ρ2, body ρ1 = .ok (.ret r) ρ2)) →
    (xs.all q = true → ∃ ρ', forL t body (xs.map inj) ρ = .ok .nx ρ' ∧ st ρ') ∧ (xs.all q = false → ∃ ρ', forL t body (xs.map inj) ρ = .ok (.ret r) ρ')
  | [], ρ, p, _ => ⟨fun _ => ⟨ρ, rfl, p⟩, fun h => by cases h⟩
  | x :: xs, ρ, p, h => by
    obtain ⟨ρ1, h1, h2, h3⟩ := h x List.mem_cons_self ρ p
    rw [List.map_cons, List.all_cons]
    cases hq : q x with
    | true =>
      obtain ⟨ρ2, e, p2⟩ := h2 hq
      rw [forL_cnx h1 e, Bool.true_and]
      exact forL_chk st inj q r xs ρ2 p2 fun y hy => h y (List.mem_cons_of_mem _ hy)
    | false =>
      obtain ⟨ρ2, e⟩ := h3 hq
      rw [forL_cret h1 e, Bool.false_and]
      exact ⟨fun h => (by cases h), fun _ => ⟨ρ2, rfl⟩⟩
theorem set_at {s : Sl} (h : ρ[i]? = some s) : ρ.set i s = ρ := by
  apply List.ext_getElem?
  intro k
  by_cases hk : i = k
  · subst hk
    have hl : i < ρ.length := by
      rcases Nat.lt_or_ge i ρ.length with w | w
      · exact w
      · rw [List.getElem?_eq_none w] at h; cases h
    rw [List.getElem?_set_self hl, h]
  · rw [List.getElem?_set_ne hk]
/-- the turns of a comprehension over one name -/
theorem lcL_F {cond : Mn Bool} {elt : Mn Rv} {xs : List β} (inj : β → D) (c : β → Bool) (g : β → D)
    (h2 : ∀ x ∈ xs, cond (ρ1.set i (.val (inj x))) = .ok (c x) (ρ1.set i (.val (inj x)))) (h3 : ∀ x ∈ xs, c x = true → cV elt (ρ1.set i (.val (inj x))) = .ok (g x) (ρ1.set i (.val (inj x)))) :
    ∀ (ys : List β) (acc : List D), (∀ x ∈ ys, x ∈ xs) → acc.length + ys.length ≤ sizeLine → lcL (.nm i) cond elt [i] (ys.map inj) acc (ρ1.set i .emp) = some (acc ++ (ys.filter c).map g, ρ1.set i .emp) := by
  intro ys
  induction ys with
  | nil => intro acc _ _; simp [lcL]
  | cons y ys ih =>
    intro acc hm hz
    have hy := hm y List.mem_cons_self
    have hm' : ∀ x ∈ ys, x ∈ xs := fun x hx => hm x (List.mem_cons_of_mem _ hx)
    have hz : acc.length + (ys.length + 1) ≤ sizeLine := hz
    rw [List.map_cons]
    unfold lcL
    have e1 : setTn (.nm i) (inj y) (ρ1.set i .emp) = some (ρ1.set i (.val (inj y))) := by
      show some ((ρ1.set i .emp).set i (.val (inj y))) = _
      rw [List.set_set]
    have e2 : wipeE (ρ1.set i (.val (inj y))) [i] = ρ1.set i .emp := by
      show ((ρ1.set i (.val (inj y))).set i .emp) = _
      rw [List.set_set]
    rw [e1, Option.bind_some]
    unfold lcTurn
    rw [h2 y hy]
    cases hc : c y with
    | false =>
      simp only [Option.bind_some]
      rw [e2, ih acc hm' (by omega), List.filter_cons, hc]
      rfl
    | true =>
      simp only [h3 y hy hc, Option.bind_some]
      rw [if_pos (by omega), e2, ih _ hm' (by simp; omega), List.filter_cons, hc]
      simp
/-- [elt for x in it if cond] -/
theorem ev_lcF {it : Mn (List D)} {cond : Mn Bool} {elt : Mn Rv} {xs : List β} {s : Sl} (inj : β → D) (c : β → Bool) (g : β → D) (h1 : it ρ = .ok (xs.map inj) ρ1) (hs : ρ1[i]? = some s) (hok : okOwn ρ1 [i] = true) (hz : xs.length ≤ sizeLine)
    (h2 : ∀ x ∈ xs, cond (ρ1.set i (.val (inj x))) = .ok (c x) (ρ1.set i (.val (inj x)))) (h3 : ∀ x ∈ xs, c x = true → cV elt (ρ1.set i (.val (inj x))) = .ok (g x) (ρ1.set i (.val (inj x)))) :
    cLc it (.nm i) cond elt [i] ρ = .ok (.own (.lst ((xs.filter c).map g))) ρ1 := by
  have key := lcL_F (i := i) (ρ1 := ρ1) inj c g h2 h3 xs [] (fun _ h => h) (by simpa using hz)
  have e := ev_lc (t := .nm i) (cond := cond) (elt := elt) (vs := [i]) h1 (by rw [hok]; simp [Tn.ix]) key
  rw [e]
  have : restE ρ1 (ρ1.set i .emp) [i] = ρ1 := by
    unfold restE restE
    rw [hs]
    show (ρ1.set i .emp).set i s = ρ1
    rw [List.set_set, set_at hs]
  simp [this]
/-- [elt for x in it] -/
theorem ev_lcN {it : Mn (List D)} {elt : Mn Rv} {xs : List β} {s : Sl} (inj : β → D) (g : β → D) (h1 : it ρ = .ok (xs.map inj) ρ1) (hs : ρ1[i]? = some s) (hok : okOwn ρ1 [i] = true) (hz : xs.length ≤ sizeLine)
    (h3 : ∀ x ∈ xs, cV elt (ρ1.set i (.val (inj x))) = .ok (g x) (ρ1.set i (.val (inj x)))) :
    cLc it (.nm i) cYes elt [i] ρ = .ok (.own (.lst (xs.map g))) ρ1 := by
  have := ev_lcF (cond := cYes) (elt := elt) inj (fun _ => true) g h1 hs hok hz (fun _ _ => rfl) fun x hx _ => h3 x hx
  rw [this, List.filter_eq_self.mpr (fun _ _ => rfl)]
/-- [elt for a, b in it] -/
theorem ev_lcP {it : Mn (List D)} {elt : Mn Rv} {xs : List β} {s s' : Sl} (a b : β → D) (g : β → D) (hij : i ≠ j) (h1 : it ρ = .ok (xs.map fun x => .tup [a x, b x]) ρ1) (hs : ρ1[i]? = some s) (hs' : ρ1[j]? = some s') (hok : okOwn ρ1 [i, j] = true) (hz : xs.length ≤ sizeLine)
    (h3 : ∀ x ∈ xs, cV elt ((ρ1.set i (.val (a x))).set j (.val (b x))) = .ok (g x) ((ρ1.set i (.val (a x))).set j (.val (b x)))) :
    cLc it (.tup [.nm i, .nm j]) cYes elt [i, j] ρ = .ok (.own (.lst (xs.map g))) ρ1 := by
  have c3 : ∀ (u v w : Sl), ((ρ1.set i u).set j v).set i w = (ρ1.set i w).set j v := fun u v w => by
    rw [List.set_comm _ _ (fun h => hij h.symm), List.set_set]
  have c4 : ∀ (u v w : Sl), ((ρ1.set i u).set j v).set j w = (ρ1.set i u).set j w := fun u v w => by rw [List.set_set]
  have c5 : ∀ (u v w : Sl), ((ρ1.set j u).set i v).set j w = (ρ1.set i v).set j w := fun u v w => by
    rw [List.set_comm (l := ρ1) _ _ (fun h => hij h.symm), List.set_set]
  have key : ∀ (ys : List β) (acc : List D), (∀ x ∈ ys, x ∈ xs) → acc.length + ys.length ≤ sizeLine → lcL (.tup [.nm i, .nm j]) cYes elt [i, j] (ys.map fun x => .tup [a x, b x]) acc ((ρ1.set j .emp).set i .emp) = some (acc ++ ys.map g, (ρ1.set j .emp).set i .emp) := by
    intro ys
    induction ys with
    | nil => intro acc _ _; simp [lcL]
    | cons y ys ih =>
      intro acc hm hz
      have hy := hm y List.mem_cons_self
      have hm' : ∀ x ∈ ys, x ∈ xs := fun x hx => hm x (List.mem_cons_of_mem _ hx)
      have hz : acc.length + (ys.length + 1) ≤ sizeLine := hz
      rw [List.map_cons]
      unfold lcL
      have e1 : setTn (.tup [.nm i, .nm j]) (.tup [a y, b y]) ((ρ1.set j .emp).set i .emp) = some ((ρ1.set i (.val (a y))).set j (.val (b y))) := by
        show some ((((ρ1.set j .emp).set i .emp).set i (.val (a y))).set j (.val (b y))) = _
        rw [List.set_set, c5]
      have e2 : wipeE ((ρ1.set i (.val (a y))).set j (.val (b y))) [i, j] = (ρ1.set j .emp).set i .emp := by
        show ((((ρ1.set i (.val (a y))).set j (.val (b y))).set j .emp).set i .emp) = _
        rw [List.set_set, c3, List.set_comm _ _ hij]
      rw [e1, Option.bind_some]
      unfold lcTurn
      simp only [ev_yes, ev_ret, h3 y hy, Option.bind_some]
      rw [if_pos (by omega), e2, ih _ hm' (by simp; omega)]
      simp
  have e := ev_lc (t := .tup [.nm i, .nm j]) (cond := cYes) (elt := elt) (vs := [i, j]) h1 (by rw [hok]; simp [Tn.ix, Tn.ixs]) (key xs [] (fun _ h => h) (by simpa using hz))
  rw [e]
  have : restE ρ1 ((ρ1.set j .emp).set i .emp) [i, j] = ρ1 := by
    unfold restE restE restE
    rw [hs, hs']
    show (((ρ1.set j .emp).set i .emp).set j s').set i s = ρ1
    rw [c5, c3]
    rw [set_at hs, set_at hs']
  simp [this]
/-- [elt for a in it if cond for b in it1 if cond1] -/
theorem ev_lc2F {γ : Type} {it it1 : Mn (List D)} {cond cond1 : Mn Bool} {elt : Mn Rv} {xs : List β} {s s' : Sl} (inj : β → D) (c : β → Bool) (ys : β → List γ) (inj1 : γ → D) (c1 : β → γ → Bool) (g : β → γ → D) (hij : i ≠ j)
    (h1 : it ρ = .ok (xs.map inj) ρ1) (hs : ρ1[i]? = some s) (hs' : ρ1[j]? = some s') (hok : okOwn ρ1 [i, j] = true) (hz : (xs.flatMap ys).length ≤ sizeLine)
    (h2 : ∀ x ∈ xs, cond ((ρ1.set i (.val (inj x))).set j .emp) = .ok (c x) ((ρ1.set i (.val (inj x))).set j .emp))
    (h3 : ∀ x ∈ xs, c x = true → it1 ((ρ1.set i (.val (inj x))).set j .emp) = .ok ((ys x).map inj1) ((ρ1.set i (.val (inj x))).set j .emp))
    (h4 : ∀ x ∈ xs, c x = true → ∀ y ∈ ys x, cond1 ((ρ1.set i (.val (inj x))).set j (.val (inj1 y))) = .ok (c1 x y) ((ρ1.set i (.val (inj x))).set j (.val (inj1 y))))
    (h5 : ∀ x ∈ xs, c x = true → ∀ y ∈ ys x, c1 x y = true → cV elt ((ρ1.set i (.val (inj x))).set j (.val (inj1 y))) = .ok (g x y) ((ρ1.set i (.val (inj x))).set j (.val (inj1 y)))) :
    cLc2 it (.nm i) cond it1 (.nm j) cond1 elt [i, j] [j] ρ = .ok (.own (.lst ((xs.filter c).flatMap fun x => ((ys x).filter (c1 x)).map (g x)))) ρ1 := by
  have c3 : ∀ (u v w : Sl), ((ρ1.set i u).set j v).set i w = (ρ1.set i w).set j v := fun u v w => by
    rw [List.set_comm _ _ (fun h => hij h.symm), List.set_set]
  have c4 : ∀ (u v w : Sl), ((ρ1.set i u).set j v).set j w = (ρ1.set i u).set j w := fun u v w => by rw [List.set_set]
  have key : ∀ (zs : List β) (acc : List D), (∀ x ∈ zs, x ∈ xs) → acc.length + (zs.flatMap ys).length ≤ sizeLine → lcL2 (.nm i) cond it1 (.nm j) cond1 elt [i, j] [j] (zs.map inj) acc ((ρ1.set i .emp).set j .emp) = some (acc ++ (zs.filter c).flatMap fun x => ((ys x).filter (c1 x)).map (g x), (ρ1.set i .emp).set j .emp) := by
    intro zs
    induction zs with
    | nil => intro acc _ _; simp [lcL2]
    | cons y zs ih =>
      intro acc hm hz
      have hy := hm y List.mem_cons_self
      have hm' : ∀ x ∈ zs, x ∈ xs := fun x hx => hm x (List.mem_cons_of_mem _ hx)
      rw [List.flatMap_cons, List.length_append] at hz
      rw [List.map_cons]
      unfold lcL2
      have e1 : setTn (.nm i) (inj y) ((ρ1.set i .emp).set j .emp) = some ((ρ1.set i (.val (inj y))).set j .emp) := by
        show some (((ρ1.set i .emp).set j .emp).set i (.val (inj y))) = _
        rw [c3]
      have e2 : wipeE ((ρ1.set i (.val (inj y))).set j .emp) [i, j] = (ρ1.set i .emp).set j .emp := by
        show (((ρ1.set i (.val (inj y))).set j .emp).set j .emp).set i .emp = _
        rw [c4, c3]
      have e3 : wipeE ((ρ1.set i (.val (inj y))).set j .emp) [j] = (ρ1.set i (.val (inj y))).set j .emp := by
        show (((ρ1.set i (.val (inj y))).set j .emp).set j .emp) = _
        rw [c4]
      rw [e1, Option.bind_some, h2 y hy]
      cases hc : c y with
      | false =>
        simp only
        rw [e2, ih acc hm' (by omega), List.filter_cons, hc]
        rfl
      | true =>
        simp only [h3 y hy hc]
        have inner := lcL_F (i := j) (ρ1 := ρ1.set i (.val (inj y))) inj1 (c1 y) (g y) (h4 y hy hc) (h5 y hy hc) (ys y) acc (fun _ h => h) (by omega)
        rw [e3, inner, Option.bind_some]
        simp only
        have hf : ((ys y).filter (c1 y)).length ≤ (ys y).length := List.length_filter_le _ _
        rw [e2, ih _ hm' (by rw [List.length_append, List.length_map]; omega), List.filter_cons, hc]
        simp
  have hok' : (okOwn ρ1 [i, j] && (Tn.nm i).ix.all (fun k => [i, j].contains k) && (Tn.nm j).ix.all (fun k => [j].contains k) && [j].all (fun k => [i, j].contains k)) = true := by rw [hok]; simp [Tn.ix]
  unfold cLc2
  rw [ev_bnd, h1, bk1]
  have ew : wipeE ρ1 [i, j] = (ρ1.set i .emp).set j .emp := by
    show (ρ1.set j .emp).set i .emp = _
    rw [List.set_comm _ _ (fun h => hij h.symm)]
  have k0 := key xs [] (fun _ h => h) (by simpa using hz)
  rw [if_pos hok', ew, k0]
  have : restE ρ1 ((ρ1.set i .emp).set j .emp) [i, j] = ρ1 := by
    unfold restE restE restE
    rw [hs, hs']
    show ((((ρ1.set i .emp).set j .emp).set j s').set i s) = ρ1
    rw [c4, c3, set_at hs, set_at hs']
  simp [this]
/-! locks, sources, calls as rules -/
@[simp] theorem ev_lkV {α : Type} {m : Mn α} {d : D} (h : ρ[i]? = some (.val d)) : cLock i m ρ = m ρ := by unfold cLock; rw [h]
@[simp] theorem ev_lkB {α : Type} {m : Mn α} {d : D} (h : ρ[i]? = some (.bor d)) : cLock i m ρ = m ρ := by unfold cLock; rw [h]
@[simp] theorem ev_lkE {α : Type} {m : Mn α} (h : ρ[i]? = some .emp) : cLock i m ρ = m ρ := by unfold cLock; rw [h]
@[simp] theorem ev_lkO {α : Type} {m : Mn α} {xs : List D} (h : ρ[i]? = some (.own (.lst xs))) : cLock i m ρ = (m (ρ.set i (.bor (.lst xs)))).mapE (unbor i) := by
  unfold cLock; rw [h]; simp only [isObj]; rfl
theorem ev_lkX {α : Type} {m : Mn α} {c : Str} {fs : List (Str × D)} (h : ρ[i]? = some (.own (.obj c fs))) : cLock i m ρ = m ρ := by
  unfold cLock; rw [h]; simp only [isObj]; rfl
@[simp] theorem me1 {α : Type} {f : En → En} {a : α} : Out.mapE f (.ok a ρ) = .ok a (f ρ) := by exact Eq.trans rfl rfl
@[simp] theorem me2 {α : Type} {f : En → En} {x : Exc} : Out.mapE f (.exc x ρ : Out α) = .exc x (f ρ) := by exact Eq.trans rfl rfl
@[simp] theorem ub1 {d : D} (h : ρ[i]? = some (.bor d)) : unbor i ρ = ρ.set i (.own d) := by unfold unbor; rw [h]
@[simp] theorem ub2 {d : D} (h : ρ[i]? = some (.own d)) : unbor i ρ = ρ := by unfold unbor; rw [h]
@[simp] theorem ub3 {d : D} (h : ρ[i]? = some (.val d)) : unbor i ρ = ρ := by unfold unbor; rw [h]
@[simp] theorem ub4 (h : ρ[i]? = some .emp) : unbor i ρ = ρ := by unfold unbor; rw [h]
@[simp] theorem ev_enumS (a : Mn D) : (ciEnum a) ρ = (bnd (cCons a cNil) fun ds => match ds with
  | [x] => ofO (enumO x)
  | _ => stk) ρ := by exact Eq.trans rfl rfl
@[simp] theorem ev_enumO (xs : List D) : enumO (.lst xs) = some (enumD 0 xs) := by exact Eq.trans rfl rfl
@[simp] theorem ev_zipS (a b : Mn D) : (ciZip a b) ρ = (bnd (cCons a (cCons b cNil)) fun ds => match ds with
  | [x, y] => ofO (zipO x y)
  | _ => stk) ρ := by exact Eq.trans rfl rfl
@[simp] theorem ev_zipO1 (xs ys : List D) : zipO (.lst xs) (.lst ys) = some (zipD xs ys) := by exact Eq.trans rfl rfl
@[simp] theorem ev_zipO2 (xs ys : List D) : zipO (.tup xs) (.lst ys) = some (zipD xs ys) := by exact Eq.trans rfl rfl
@[simp] theorem ev_zipO3 (xs ys : List D) : zipO (.lst xs) (.tup ys) = some (zipD xs ys) := by exact Eq.trans rfl rfl
@[simp] theorem ev_zipO4 (xs ys : List D) : zipO (.tup xs) (.tup ys) = some (zipD xs ys) := by exact Eq.trans rfl rfl
@[simp] theorem ev_qE (c : Mn Rv) : (qE c) ρ = (bnd c fun r => ofO (unlent r)) ρ := by exact Eq.trans rfl rfl
@[simp] theorem ev_ul1 (d : D) : unlent (.val d) = some d := by exact Eq.trans rfl rfl
@[simp] theorem ev_ul2 (d : D) : unlent (.own d) = some d := by exact Eq.trans rfl rfl
@[simp] theorem ev_seq4 (xs : List D) : seqR (.own (.tup xs)) = some xs := by exact Eq.trans rfl rfl
@[simp] theorem ev_rse (x : Str) : cRse x ρ = .exc (x, []) ρ := by exact Eq.trans rfl rfl
@[simp] theorem ev_m1 (f : D → D → Option Rv) (co ce : Mn Rv) : (cM1 f co ce) ρ = (bnd co fun a => if isStr a.d = true then bnd ce fun b => ofO (f a.d b.d) else stk) ρ := by exact Eq.trans rfl rfl
@[simp] theorem ev_oI (i : Int) : oI (.int i) = some (some i) := by exact Eq.trans rfl rfl
@[simp] theorem ev_isStr (x : Str) : isStr (.str x) = true := by exact Eq.trans rfl rfl
theorem ev_tryX {body suite : Mn Fl} {su : Str → Option Bool} {ρ' : En} {x : Exc} (hb : body ρ = .exc x ρ') (hs : su x.1 = some true) : cTry body su i suite ρ = sufEnd i (suite (ρ'.set i (.exn x))) := by
  unfold cTry; rw [hb]; simp only [hs]
theorem ev_tryN {body suite : Mn Fl} {su : Str → Option Bool} {ρ' : En} {x : Exc} (hb : body ρ = .exc x ρ') (hs : su x.1 = some false) : cTry body su i suite ρ = .exc x ρ' := by
  unfold cTry; rw [hb]; simp only [hs]
theorem ev_tryO {body suite : Mn Fl} {su : Str → Option Bool} {ρ' : En} {a : Fl} (hb : body ρ = .ok a ρ') : cTry body su i suite ρ = .ok a ρ' := by
  unfold cTry; rw [hb]
/-! comparing with the empty list -/
theorem v_neNil {xs : List D} {ds : List PyData} (h : pyAll xs = some ds) (h2 : SeqAt.shaped (.list ds) = true) : oNe (.lst xs) (.lst []) = some (.val (.bl (!xs.isEmpty))) := by
  have e1 : pyOf (.lst xs) = some (.list ds) := by show (pyAll xs).map PyData.list = _; rw [h]; rfl
  have e2 : pyOf (.lst []) = some (.list []) := rfl
  have e3 : SeqAt.shaped (.list []) = true := by decide
  unfold oNe eqD
  rw [e1, e2]
  simp only [h2, e3, Bool.and_self, if_true, Option.bind_some, v_vB]
  cases xs with
  | nil => cases h; simp [PyData.eqv, PyData.eqvAll]
  | cons a xs =>
    cases ds with
    | nil =>
      unfold pyAll at h
      split at h <;> cases h
    | cons d ds => simp [PyData.eqv, PyData.eqvAll]
theorem v_eqNil {xs : List D} {ds : List PyData} (h : pyAll xs = some ds) (h2 : SeqAt.shaped (.list ds) = true) : oEq (.lst xs) (.lst []) = some (.val (.bl xs.isEmpty)) := by
  have := v_neNil h h2
  unfold oNe at this
  unfold oEq
  cases e : eqD (.lst xs) (.lst []) with
  | none => rw [e] at this; cases this
  | some b =>
    rw [e] at this
    simp only [Option.bind_some, v_vB, Option.some.injEq, Rv.val.injEq, D.bl.injEq] at this ⊢
    rw [← Bool.not_not b, this, Bool.not_not]
theorem v_neNilI (v : List Int) : oNe (.lst (v.map D.int)) (.lst []) = some (.val (.bl (!v.isEmpty))) := by
  have h2 : SeqAt.shaped (.list (v.map PyData.int)) = true := by
    have := dep_ints v
    simp [SeqAt.shaped, PyData.canLay0, PyData.depth, lay_ints]
    omega
  have := v_neNil (py_ints v) h2
  simpa using this
end
end CI
end
section
set_option maxRecDepth 100000
set_option maxHeartbeats 2000000
/-! CIXi: an own error over ValueError whose __init__ says super().__init__(text) and keeps one field. -/
namespace CI
open PySem L2 PyProof.Rows PySem.W
/-- the frame of such an __init__ -/
abbrev envS (qual : Str) (scope : Scope) (L f : Addr) (cd : Value) (cc : Addr) : Env := ksEnv qual scope L f cd cc
def cxS (CX : CXT) (P : Program) (w : World) (K : PySem.W.Frag) (mg : Str → Option Value) (base : Heap) (N : List Str) (qual : Str) (scope : Scope) (f : Addr) (cd : Value) (cc : Addr) (A : Around) (outer : List Env) (s : Shared) (H : Hp) (E : XK) : Cx where
  prog := P
  w := w
  K := K
  mg := mg
  base := base
  A := A.deeper (envS qual scope s.heap.objs.size f cd cc)
  N := N
  s_0 := s
  H_0 := H
  env := envS qual scope s.heap.objs.size f cd cc
  outer := outer
  stack := envS qual scope s.heap.objs.size f cd cc :: outer
  ex := []
  calm := true
  fn := fun _ => false
  pn := []
  xe := fun e s' => wpAny (model P w) (A.deeper (envS qual scope s.heap.objs.size f cd cc)) (leaving (envS qual scope s.heap.objs.size f cd cc) e) (fun _ s'' => CX outer H s E e s'') (fun e' s'' => CX outer H s E e' s'') s'
/-- what the text's scope says -/
structure XScope (a b : Str) (sc : Scope) : Prop where
  kind : sc.kind = .function
  co : sc.isCoroutine = false
  gen : sc.isGenerator = false
  ne : a ≠ b
  la : sc.names.lookup a = some .local
  lb : sc.names.lookup b = some .local
  ls : sc.names.lookup ("super" : Str) = some .globalImplicit
  lc : sc.names.lookup ("__class__" : Str) = some .free
  nocell : ∀ x ∈ sc.names, x.2 ≠ .cell
  free : ∀ x, sc.names.lookup x = some .free → x = "__class__"
section
variable {CX : CXT} {P : Program} {w : World} {K : PySem.W.Frag} {mg : Str → Option Value} {base : Heap} {qual a b : Str} {scope : Scope} {f cc C : Addr} {cd : Value} {A : Around} {outer : List Env} {s : Shared} {H : Hp} {E : XK} {u1 u2 : Value} {v1 v2 : V} {h1 : Heap} {t : Nat}
theorem lk_cc {x : Str} {c : Addr} (h : ([("__class__", cc)] : List (Str × Addr)).lookup x = some c) : x = "__class__" ∧ c = cc := by
  rw [List.lookup_cons] at h
  cases e : (x == ("__class__" : Str)) with
  | true => rw [e] at h; cases h; exact ⟨by simpa using e, rfl⟩
  | false => rw [e] at h; cases h
theorem inv_startX (S : XScope a b scope) (hd : A.handled = none) (e0 : Env0 P w K mg base A outer s H) (r1 : RelV v1 u1) (r2 : RelV v2 u2) (hcc : ∃ v, s.heap.IsCell cc v) (hccb : ∃ o, base.get? cc = some o)
    (hn : h1.Ns s.heap.objs.size (fun y => ([(a, u1), (b, u2)] : List (Str × Value)).reverse.lookup y)) (hk : ∀ c o, s.heap.get? c = some o → h1.get? c = some o) :
    Inv (cxS CX P w K mg base [a, b] qual scope f cd cc A outer s H E) [] [some v1, some v2] H { s with heap := h1, toks := t } := by
  have noA : ∀ c : Addr, c ∉ (cxS CX P w K mg base [a, b] qual scope f cd cc A outer s H E).ex := fun c z => absurd (show c ∈ ([] : List Addr) from z) (by simp)
  have nocell : ∀ x, scope.names.lookup x ≠ some .cell := fun x z => S.nocell _ (PySem.mem_of_lookup z) rfl
  obtain ⟨v, hcc⟩ := hcc
  obtain ⟨o, hob⟩ := hccb
  have hH : H cc = none := (e0.bs _ _ hob).2
  refine ⟨⟨e0.mod, S.kind, rfl, rfl, Nat.le_refl _, fun y z c h1 h2 => ?_, fun y hy => ?_, fun y c h => (by cases h), fun _ => hd, Around.frames_deeper e0.frames, .inr ⟨rfl, rfl⟩, fun c z => absurd z (noA c), e0.bs, e0.bsz, fun c _ _ => noA c, fun c z => absurd z (noA c), e0.funs, e0.frf⟩,
    rfl, e0.bare, Un.kept hk, ⟨_, hn, fun i y v h1 h2 h3 => ?_⟩, fun y c h => ?_, e0.hok.fresh (Nat.le_refl _), fun y c h => ?_, fun p hp => absurd (show p ∈ ([] : List (Addr × Obj)) from hp) (by simp), e0.hok.kept hk, rfl⟩
  · rw [(lk_cc h1).1, (lk_cc h2).1]
  · have hy : scope.names.lookup y = some .cell ∨ scope.names.lookup y = some .free := hy
    rcases hy with hy | hy
    · exact absurd hy (nocell y)
    · rw [S.free y hy]
      exact ⟨cc, by show List.lookup ("__class__" : Str) [(("__class__" : Str), cc)] = some cc; simp [List.lookup]⟩
  · match i, h1, h2 with
    | 0, h1, h2 =>
      have h1 : some a = some y := h1
      have h2 : some (some v1) = some (some v) := h2
      cases h1
      cases h2
      refine ⟨u1, r1, .inl ⟨S.la, ?_⟩⟩
      have e : (a == b) = false := by simpa using S.ne
      show List.lookup a [(b, u2), (a, u1)] = _
      simp [List.lookup, e]
    | 1, h1, h2 =>
      have h1 : some b = some y := h1
      have h2 : some (some v2) = some (some v) := h2
      cases h1
      cases h2
      refine ⟨u2, r2, .inl ⟨S.lb, ?_⟩⟩
      show List.lookup b [(b, u2), (a, u1)] = _
      simp [List.lookup]
    | i + 2, h1, h2 => exact absurd (show (none : Option Str) = some y from h1) (by simp)
  · rw [(lk_cc h).2]
    exact ⟨v, hcc.keeps hk⟩
  · rw [(lk_cc h).2]
    exact hH
end
/-- what the written part says of such a class -/
structure XiK (P : Program) (K : PySem.W.Frag) (mg : Str → Option Value) (C fI : Addr) (qual : Str) (params : Arguments) (body : List Stmt) (scope : Scope) (cc : Addr) (cda : Addr) (fd : FuncData) : Prop where
  T : OexC K C
  lk : ∃ oc od dV kV doc pm an ct osl, fd = ksFn "__init__" qual params body scope dV kV doc pm an (.ref cda) ct cc ∧ K.lookup fI = some ⟨oc, od, .func fd, osl⟩
  code : codeIn K (.ref cda) qual = true
  cod : ∃ ccl cdd vs ccs file tf, K.lookup cda = some ⟨ccl, cdd, .fields vs, ccs⟩ ∧ vs[2]? = some (.str file tf) ∧ ((P.main.file : Str) == file) = true
  cell : ∃ cl cld csl, K.lookup cc = some ⟨cl, cld, .cell (some (.ref C)), csl⟩
  sup : ks_superIn K C C "__init__" = some (some (.builtin "ValueError.__init__"))
  own : mroIn K C (.ref C) = some true
  isVE : subIn K (.ref C) (.type "ValueError") = some true
  opq : nsIn K cStatics "thirdparty.any" = some none
  msup : mg "super" = none
  top : (P.main.scope.names.lookup ("super" : Str)).isSome = false
theorem xinit_fn {CX : CXT} {P : Program} {w : World} {K : PySem.W.Frag} {mg : Str → Option Value} {base : Heap} {qual a b m : Str} {scope : Scope} {params : Arguments} {fI cc cda C : Addr} {fd : FuncData} {k : Nat} {sp : Sp} {p0 p1 p2 p3 p4 p5 : Pos} {j : Nat} {st2 : Stmt} {ar : Arg} {rest : List Arg}
    (X : XiK P K mg C fI qual params [.Expr (.Call (.Attribute (.Call (.Name "super" p0) [] [] p1) "__init__" p2) [.Constant (.str m) j p3] [] p4) p5, st2] scope cc cda fd) (S : XScope a b scope) (har : params.posonlyargs ++ params.args = ar :: rest) (hara : ar.arg = a)
    (hi : ∀ L : Addr, interactive (envS qual scope L fI (.ref cda) cc) = false)
    (hev : ∀ L : Addr, ∃ pl : Sem Bool, eval (.Call (.Attribute (.Call (.Name "super" p0) [] [] p1) "__init__" p2) [.Constant (.str m) j p3] [] p4) (envS qual scope L fI (.ref cda) cc) = (do
      let ov ← attributeBase (.Call (.Name "super" p0) [] [] p1) "__init__" (envS qual scope L fI (.ref cda) cc) (eval (.Call (.Name "super" p0) [] [] p1) (envS qual scope L fI (.ref cda) cc))
      standAt p2.atName
      let (f, first) ← holding [ov] (getMethod ov "__init__" pl)
      callWith p4 f first (backTo p4 (starEach [.Constant (.str m) j p3] (envS qual scope L fI (.ref cda) cc))) []))
    (len : ∀ vs H Q E, sp vs H Q E → ∃ (e : Addr) (v : V), vs = [.ref e, v] ∧ H e = some (exo e C none))
    (hbody : ∀ (A : Around) (outer : List Env) (s : Shared) (H : Hp) (vs : List V) (Q : VK) (E : XK), Room k (A.deeper (envS qual scope s.heap.objs.size fI (.ref cda) cc)) → sp vs H Q E →
      ∃ t, PSs (cxS CX P w K mg base [a, b] qual scope fI (.ref cda) cc A outer s H E) [st2] t ∧ t { nx := fun _ H' => Q .non H', rt := Q } (vs.map some) H) :
    FnOk P w K mg base CX (k + 1) fI fd [a, b] sp := by
  refine ⟨fun vs H Q E h => by obtain ⟨e, v, rfl, _⟩ := len _ _ _ _ h; rfl, fun A outer s H args us vs Q E hr e0 hb r hsp => ?_⟩
  obtain ⟨e, v, rfl, he⟩ := len _ _ _ _ hsp
  obtain ⟨u1, u2, rfl, r1, r2⟩ : ∃ u1 u2, us = [u1, u2] ∧ RelV (.ref e) u1 ∧ RelV v u2 := by
    cases r with
    | cons r1 r =>
      cases r with
      | cons r2 r => cases r; exact ⟨_, _, rfl, r1, r2⟩
  obtain rfl : u1 = Value.ref e := r1
  have KX : K.In s.heap := e0.mod.kin.keeps fun c o e => (e0.bs c o e).1
  have lim : s.heap.NoLimit := e0.mod.nolimit.keeps fun c o e => (e0.bs c o e).1
  obtain ⟨oc, od, dV, kV, doc, pm, an, ct, osl, rfl, lk⟩ := X.lk
  obtain ⟨ccl, cdd, cvs, ccs, file, tf, hco, hvs, hfile⟩ := X.cod
  obtain ⟨cl, cld, csl, hcell⟩ := X.cell
  obtain ⟨nm, q, Nn, bs, bm, sn, sub, ab, col, dd, k0, k1, k2, k3, k5, hC, hbm⟩ := X.T.cls
  obtain ⟨t1, ho⟩ := exo_at e0.hok he
  refine ks_codeAny_call_defAt hr.depth (KX _ _ lk) rfl lim (codeRec_of KX X.code) rfl hb S.nocell (fun y hy => ?_) (fun h1 hns hk => ?_) S.co S.gen S.kind
  · have hy : y ∈ [(a, Value.ref e), (b, u2)] := hy
    simp only [List.mem_cons, List.not_mem_nil, or_false] at hy
    rcases hy with rfl | rfl
    · exact S.la
    · exact S.lb
  have I0 : Inv (cxS CX P w K mg base [a, b] qual scope fI (.ref cda) cc A outer s H E) [] [some (.ref e), some v] H { s with heap := h1, toks := s.toks + 2 } :=
    inv_startX S hr.hd e0 rfl r2 ⟨_, ⟨_, KX _ _ hcell, rfl⟩⟩ ⟨_, e0.mod.kin _ _ hcell⟩ hns hk
  obtain ⟨t, ht, hq⟩ := hbody A outer s H _ Q E (hr.deeper _) hsp
  obtain ⟨hp, g, dr, tk, os⟩ := s
  have X1 : K.In h1 := I0.kIn
  have ho1 := hk _ _ ho
  have hC1 := X1 _ _ hC
  have hCd : ∀ {hh : Heap}, K.In hh → hh.get? C = some (excClassObj nm q C Nn bs bm true sn sub ab col dd k0 k1 k2 k3 k5 "ValueError.__new__") := fun z => z _ _ hC
  refine ks_wpAt_execs_cons ?_
  refine ks_wpAt_Expr_any ?_ (hi _)
  obtain ⟨pl, hev⟩ := hev hp.objs.size
  refine ks_wpAt_MethodCall (pl := pl) ?_ hev
  refine ks_wpAt_super_base (env := envS qual scope hp.objs.size fI (.ref cda) cc) S.ls S.lc (by decide) rfl (X1 _ _ lk) rfl (ar := ar) (by show (params.posonlyargs ++ params.args).head? = _; rw [har]; rfl) rfl (X1 _ _ hco) rfl hvs hfile X.top ?_
  obtain ⟨mb, hmb, hmb2⟩ := e0.mod.blt
  refine ks_loadName_global S.kind S.ls (Calls.loadGlobal_builtin (env := envS qual scope hp.objs.size fI (.ref cda) cc) (e0.mod.glob.keeps I0.bk) X.msup (hmb.keeps I0.bk) ((hmb2 _ (by decide)).trans (by decide +kernel)) ⟨rfl, ?_⟩)
  refine wpAny_loadName_free S.kind S.lc (by show List.lookup _ _ = _; simp [List.lookup]) ⟨_, X1 _ _ hcell, rfl⟩ ?_
  refine wpAny_loadName_local (v := .ref e) S.kind (by rw [hara]; exact S.la) hns (by
    rw [hara]
    have e1 : (a == b) = false := by simpa using S.ne
    show List.lookup a [(b, u2), (a, Value.ref e)] = _
    simp [List.lookup, e1]) ?_
  refine ks_wpAny_isType_cls hC1 rfl ⟨rfl, ?_⟩
  refine ks_wpAny_call_super hC1 rfl ho1 rfl (fun c z => by cases z) (looks_mroIn X1 X.own) (fun h2 hso k2 => ?_)
  have I2 := I0.kept (h' := h2) (t' := tk + 2) k2
  have X2 : K.In h2 := I2.kIn
  have hcl : clsIn K C = some { name := nm, bases := bs, mro := .ref C :: bm, ns := Nn, qualname := q, hasDict := true, slotNames := sn, subclasses := sub, abstract := ab, collection := col, hasDel := false } := by unfold clsIn; rw [hC] <;> rfl
  have hmro : Looks (model P w) h2 (mroOf (.ref C)) (.ref C :: bm) := fun A Q E s k q => wpAny_bind ((looks_clsIn X2 hcl) A _ E s k (wpAny_pure q))
  have hal : alongIn K "__init__" (((Value.ref C :: bm).dropWhile (· != .ref C)).drop 1) = some (some (.builtin "ValueError.__init__")) := by
    have z := X.sup
    unfold ks_superIn at z
    rw [hcl] at z
    exact z
  have ho2 := k2 _ _ ho1
  have IA : InstAt h2 e { cls := .ref C, data := .fields #[.ref t1, .none, .none, .none, .bool false, .none] } C none := ⟨ho2, rfl, rfl, trivial⟩
  have hIs : Looks (model P w) h2 (isInstance (.ref e) (.type "ValueError")) true := IA.type.andThen (looks_subIn X2 X.isVE)
  refine kxs_getMethod kxs_ValueError hso (looks_opaque X2 X.opq) hmro rfl X2 hal hIs (ks_ne X2 IA hcl) (by decide) ?_
  have I3 := I2.kept (h' := h2.push (kxs_mw "ValueError.__init__" e)) (t' := tk + 2 + 1) fun _ _ z => Heap.get?_push_of_some _ z
  have hu3 : (h2.push (kxs_mw "ValueError.__init__" e)).get? h2.objs.size = some (kxs_mw "ValueError.__init__" e) := Heap.get?_push_at rfl rfl
  refine kxs_callWith (i := "ValueError.__init__") (x := e) (by rfl) (Calls.evalArgs_plain (Calls.spliced_cons (Calls.Constant_str (x := m) (k := j) (pos := p3) (env := envS qual scope hp.objs.size fI (.ref cda) cc) (Calls.spliced_nil ⟨hu3, ?_⟩))))
  have ho3 := Heap.get?_push_of_some (kxs_mw "ValueError.__init__" e) ho2
  have hC3 := Heap.get?_push_of_some (kxs_mw "ValueError.__init__" e) (hCd X2)
  refine wpAny_call (codeAny_of_tree ?_)
  show wpAny _ _ (callAny (.ref h2.objs.size) ⟨[.str m (tk + 2 + 1)], []⟩) _ _ _
  simp only [callAny]
  refine wpAny_bind (wpAny_load hu3 ?_)
  simp only [kxs_mw, show (Value.type "method-wrapper" == Value.type "method" || Value.type "method-wrapper" == Value.type "builtin_function_or_method" || Value.type "method-wrapper" == Value.type "method-wrapper") = true by decide, if_true]
  refine KFB.if_so (by decide) ?_
  refine wpAny_bind (check_bound_init F.excBase_ValueError.toExcCallFacts hC3 ho3 rfl ?_)
  refine wpAny_bind (wpAny_pure (wpAny_pure ?_))
  refine ⟨plainId_quiet F.excBase_ValueError.init.plain _, codeAny_builtin F.excBase_ValueError.initEntry ?_⟩
  refine exc_init_tree (cls := .ref C) (t0 := t1) (dv := none) (c2 := .none) (c3 := .none) (b4 := .bool false) ho3 (by show 1 ≤ sizeLine; rw [sizeLine_eq]; omega) fun h4 k4 e4 _ => ?_
  have I4 := (I3.tok (tk + 2 + 1 + 1)).write (t' := tk + 2 + 1 + 1) (h' := h4) (x := e) (e := e) (o := exo e C none) (by rw [he]; exact True.intro) (.inl rfl) k4 ⟨_, e4⟩ (exo_ok e4)
  have eu : upd H e (exo e C none) = H := by
    funext c
    by_cases hc : c = e
    · rw [hc, upd_same, he]
    · rw [upd_ne hc]
  rw [eu] at I4
  refine wpAt_of_wpAny (wpAny_mono (ht.run [] _ _ H _ I4 hq) (fun fl s' hs => ?_) fun _ _ z => z)
  have fin : ∀ {σ' : L2.St} {H' : Hp} {v : V} {u : Value}, Inv (cxS CX P w K mg base [a, b] qual scope fI (.ref cda) cc A outer ⟨hp, g, dr, tk, os⟩ H E) [] σ' H' s' → RelV v u → Q v H' → CE outer P w H ⟨hp, g, dr, tk, os⟩ Q u s' :=
    fun {σ' H' v u} J rv q => ⟨v, H', J.os, J.bare, J.base, J.hok, rv, q⟩
  cases fl with
  | ret u =>
    obtain ⟨v, σ', H', J, rv, q⟩ := hs
    exact fin J rv q
  | next =>
    obtain ⟨σ', H', J, q⟩ := hs
    exact fin (v := V.non) (u := Value.none) J rfl q
  | brk =>
    obtain ⟨_, _, _, q⟩ := hs
    exact False.elim q
  | cont =>
    obtain ⟨_, _, _, q⟩ := hs
    exact False.elim q
end CI
end
section
set_option maxRecDepth 100000
set_option maxHeartbeats 2000000
/-! CIXr: raising own errors with a field; reading the field. -/
namespace CI
open PySem L2 PyProof.Rows PySem.W
/-- tuple(x), by values -/
def rTp (K : PySem.W.Frag) : List V → Hp → VK → Prop := fun xs H Q => ∃ p ys, xs = [.ref p] ∧ ((SqL K H p ys ∧ ∀ l, H l = none → Q (.ref l) (upd H l (.tup ys))) ∨ (SqT K H p ys ∧ Q (.ref p) H))
def rId : List V → Hp → VK → Prop := fun xs H Q => ∃ y, xs = [y] ∧ Q y H
/-- the promise of such an __init__: r makes the field's value of the argument -/
def spXi (r : List V → Hp → VK → Prop) (C : Addr) (f : Str) : Sp := fun vs H Q _ => ∃ (e : Addr) (v : V), vs = [.ref e, v] ∧ H e = some (exo e C none) ∧
  r [v] H fun y H1 => H1 e = some (exo e C none) ∧ ∀ dx, H1 dx = none → dx ≠ e → Q .non (upd (upd H1 dx (exd dx [(f, y)])) e (exo e C (some dx)))
section
variable {P : Program} {w : World} {K : PySem.W.Frag} {mg : Str → Option Value} {base : Heap} {qual a b m f : Str} {scope : Scope} {params : Arguments} {fI cc cda C : Addr} {fd : FuncData} {k : Nat} {p0 p1 p2 p3 p4 p5 pa pb pf ps pt pq : Pos} {j : Nat} {ar : Arg} {rest : List Arg}
abbrev supE (m : Str) (j : Nat) (p0 p1 p2 p3 p4 : Pos) : Expr := .Call (.Attribute (.Call (.Name "super" p0) [] [] p1) "__init__" p2) [.Constant (.str m) j p3] [] p4
abbrev supEv (m : Str) (j : Nat) (p0 p1 p2 p3 p4 : Pos) (env : Env) : Prop := ∃ pl : Sem Bool, eval (supE m j p0 p1 p2 p3 p4) env = (do
      let ov ← attributeBase (.Call (.Name "super" p0) [] [] p1) "__init__" env (eval (.Call (.Name "super" p0) [] [] p1) env)
      standAt p2.atName
      let (f, first) ← holding [ov] (getMethod ov "__init__" pl)
      callWith p4 f first (backTo p4 (starEach [.Constant (.str m) j p3] env)) [])
theorem xinit_of {e2 : Expr} {r : List V → Hp → VK → Prop} (X : XiK P K mg C fI qual params [.Expr (supE m j p0 p1 p2 p3 p4) p5, .Assign [.Attribute (.Name a pa) f pf] e2 ps] scope cc cda fd) (S : XScope a b scope) (har : params.posonlyargs ++ params.args = ar :: rest) (hara : ar.arg = a)
    (hi : ∀ L : Addr, interactive (envS qual scope L fI (.ref cda) cc) = false) (hev : ∀ L : Addr, supEv m j p0 p1 p2 p3 p4 (envS qual scope L fI (.ref cda) cc))
    (hno : findIn K (.ref C) f = some none) (hda : (a == ("__debug__" : Str)) = false) (hca : (a == ("__classdict__" : Str)) = false)
    (hsw : ∀ L : Addr, swapsWith e2 (some (.Attribute (.Name a pa) f pf)) ps.line (envS qual scope L fI (.ref cda) cc) = pure false)
    (he2 : ∀ (A : Around) (outer : List Env) (s : Shared) (H : Hp) (E : XK), ∃ te, PE (cxS CX0 P w K mg base [a, b] qual scope fI (.ref cda) cc A outer s H E) e2 te ∧ ∀ (σ : L2.St) (H : Hp) (v : V) (Q : VK), σ[(1 : Nat)]? = some (some v) → r [v] H Q → te σ H Q)
    (mono : ∀ xs H (Q Q' : VK), (∀ y H', Q y H' → Q' y H') → r xs H Q → r xs H Q') : FnOk P w K mg base CX0 (k + 1) fI fd [a, b] (spXi r C f) := by
  refine xinit_fn X S har hara hi hev (fun vs H Q E h => by obtain ⟨e, v, h1, h2, _⟩ := h; exact ⟨e, v, h1, h2⟩) fun A outer s H vs Q E hr h => ?_
  obtain ⟨e, v, rfl, h1, h2⟩ := h
  obtain ⟨te, h3, h4⟩ := he2 A outer s H E
  refine ⟨_, pss_one (ps_ost (pe_var (i := 0) rfl (.inl S.la) hda hca) h3 (hsw _)), ?_⟩
  refine h4 _ _ v _ rfl (mono _ _ _ _ (fun y H1 ⟨g1, g2⟩ => ?_) h2)
  exact ⟨_, rfl, e, C, rfl, X.T, hno, .inl ⟨g1, fun dx n1 n2 => g2 dx n1 n2⟩⟩
theorem rTp_mono {K : PySem.W.Frag} : ∀ xs H (Q Q' : VK), (∀ y H', Q y H' → Q' y H') → rTp K xs H Q → rTp K xs H Q' := fun xs H Q Q' k ⟨p, ys, e, h⟩ => ⟨p, ys, e, h.imp (fun ⟨a, b⟩ => ⟨a, fun l n => k _ _ (b l n)⟩) fun ⟨a, b⟩ => ⟨a, k _ _ b⟩⟩
theorem rId_mono : ∀ xs H (Q Q' : VK), (∀ y H', Q y H' → Q' y H') → rId xs H Q → rId xs H Q' := fun xs H Q Q' k ⟨y, e, h⟩ => ⟨y, e, k _ _ h⟩
end
/-! ### the heap once the error is let go -/
section
variable {T : Tx} {ρ : En} {σ : L2.St} {H Z : Hp} {a : Addr}
theorem SOk.del (S : SOk T ρ σ H Z) (hz : Z a = none) (ho : ¬ OwnA ρ σ a) (hb : ¬ BorA ρ σ a) : SOk T ρ σ (L2.del H a) Z := by
  refine ⟨S.len, fun c o e => ?_, fun i s h => ?_, S.inj, S.sep⟩
  · have hc : c ≠ a := fun z => by rw [z, hz] at e; cases e
    rw [del_ne hc]; exact S.sub c o e
  · have q := S.slot i s h
    cases s with
    | emp => trivial
    | exn x => exact q
    | val d => exact q
    | own d =>
      obtain ⟨c, e, r, z⟩ := q
      have hc : c ≠ a := fun w => ho ⟨i, d, h, w ▸ e⟩
      exact ⟨c, e, r.mono (del_ne hc) (.refl _), z⟩
    | bor d =>
      obtain ⟨c, e, r⟩ := q
      have hc : c ≠ a := fun w => hb ⟨i, d, h, w ▸ e⟩
      exact ⟨c, e, r.mono (del_ne hc) (.refl _)⟩
end
/-- a class of own errors with one field: from the argument by g, by the rule r -/
structure XcOk (X : Ev) (c f : Str) (r : List V → Hp → VK → Prop) : Prop where
  ex : ∃ (k : Nat) (C fI : Addr) (fd : FuncData) (ps : List Str), X.mg c = some (.ref C) ∧ OexC X.K C ∧ findIn X.K (.ref C) "__init__" = some (some (.ref fI)) ∧ typeIn X.K (.ref fI) = some (.type "function") ∧ Binds X.K fd ps [] ∧
    FnOk X.prog X.w X.K X.mg X.base CX0 k fI fd ps (spXi r C f) ∧ Room (k + 1) X.A
/-- raise C(e): the field f -/
def cRseF (x f : Str) (g : Rv → Option D) (c : Mn (List Rv)) : Mn Fl := bnd c fun rs => match rs with
  | [r] => (match g r with
    | some d => fun ρ => .exc (x, [(f, d)]) ρ
    | none => stk)
  | _ => stk
def gKeep : Rv → Option D
  | .val d => some d
  | _ => none
def gTupl : Rv → Option D := fun r => match r.d with
  | .lst ds => some (.tup ds)
  | .tup ds => some (.tup ds)
  | _ => none
/-- what the rule must make of an argument -/
def XFit (X : Cx) (r : List V → Hp → VK → Prop) (g : Rv → Option D) : Prop := ∀ ρ σ H Z v q d (Q : VK), SOk (tx X) ρ σ H Z → ArgOk (tx X) H Z v q → g q = some d → (∀ y H' Z', SOk (tx X) ρ σ H' Z' → EStep ρ σ H Z ρ H' Z' → Rep (tx X) Z' d y → Q y H') → r [v] H Q
section
variable {X : Cx} {x f : Str} {e1 : Expr} {c : Mn (List Rv)} {p pos pos' : Pos} {r : List V → Hp → VK → Prop} {g : Rv → Option D}
theorem xfit_keep : XFit X rId gKeep := fun ρ σ H Z v q d Q S a e k => by
  cases q with
  | val d' => cases e; exact ⟨v, rfl, k _ _ _ S (.refl _ _ _ _) a⟩
  | own _ => cases e
  | bor _ => cases e
theorem xfit_tup : XFit X (rTp X.K) gTupl := fun ρ σ H Z v q d Q S a e k => by
  have hf := (fits_tuple (X := X)).run ρ σ H Z [v] [q] (.val d) Q S ⟨a, trivial⟩ (by
    unfold gTupl at e
    show gTuple q.d = _
    generalize q.d = dd at e ⊢
    cases dd with
    | lst ds => cases e; rfl
    | tup ds => cases e; rfl
    | _ => cases e) fun v' H' Z' S' E' o' => k v' H' Z' S' E' o'
  exact hf
theorem ss_rseF (hc : X.calm = true) (h : XcOk (ev X) x f r) (hf : XFit X r g) (hg : Gl X x) (ha : SA X [e1] c) (hdb : (x == ("__debug__" : Str)) = false := by decide) (he : starEach [e1] X.env = (false, eval e1 X.env) :: starEach [] X.env := by rfl) (hpl : (backTo pos (starEach [] X.env)).any (·.1) = false := by rfl) :
    SS X (.Raise (some (.Call (.Name x p) [e1] [] pos)) none pos') (cRseF x f g c) := by
  obtain ⟨k, C, fI, fd, ps, hm, T, iC, tI, hb, F, hr⟩ := h.ex
  refine ⟨fun W tk => psI (ps_raise hc tk (pmk_oex T iC tI F hr hb .nil pass0 hg hm (ha.run W tk) hdb he hpl)) (tS_of fun ρ σ H Z Dn S p => ⟨ρ, Z, S, p.bnd (k := kA) fun rs vs ρ1 H1 Z1 S1 E1 o1 p1 => ?_⟩)⟩
  match rs, vs, o1, p1 with
  | [], _, _, p1 => exact p1.elim
  | _ :: _ :: _, _, _, p1 => exact p1.elim
  | [q], [], o1, _ => exact o1.elim
  | [q], _ :: _ :: _, o1, _ => exact o1.2.elim
  | [q], [v], o1, p1 =>
    simp only at p1
    cases hq : g q with
    | none => rw [hq] at p1; exact p1.elim
    | some d =>
      rw [hq] at p1
      refine ⟨by simp, fun a na => ⟨a, v, rfl, upd_same, ?_⟩⟩
      have za := S1.zfree na
      refine hf ρ1 σ (upd H1 a (exo a C none)) Z1 v q d _ (S1.new na) (o1.1.mono (upd_le na) (.refl _)) hq fun y H2 Z2 S2 E2 ry => ?_
      have ea : H2 a = some (exo a C none) := E2.same a _ upd_same
      refine ⟨ea, fun dx nx nxa => ⟨rfl, dx, [(f, y)], by rw [upd_same], by rw [upd_ne nxa]; exact upd_same, ?_, ?_⟩⟩
      · cases e : H1 dx with
        | none => rfl
        | some o => rw [E2.same dx o (upd_le na dx o e)] at nx; cases nx
      · have hoA : ¬ OwnA ρ1 σ a := S1.notOwn na
        have hbA : ¬ BorA ρ1 σ a := S1.notBor na
        have z2 : Z2 a = none := by
          cases e : Z2 a with
          | none => rfl
          | some o =>
            rcases E2.step.grow a o e with w | w | w
            · rw [za] at w; cases w
            · rw [upd_same] at w; cases w
            · exact absurd w hoA
        have n1 : H1 dx = none := by
          cases e : H1 dx with
          | none => rfl
          | some o => rw [E2.same dx o (upd_le na dx o e)] at nx; cases nx
        have nd : L2.del H2 a dx = none := by rw [del_ne nxa]; exact nx
        have eF : upd (L2.del (upd (upd H2 dx (exd dx [(f, y)])) a (exo a C (some dx))) a) dx (.xd [(f, y)]) = upd (L2.del H2 a) dx (.xd [(f, y)]) := by
          funext b
          by_cases hb : b = dx
          · rw [hb, upd_same, upd_same]
          · rw [upd_ne hb, upd_ne hb]
            by_cases hba : b = a
            · rw [hba, del_same, del_same]
            · rw [del_ne hba, del_ne hba, upd_ne hba, upd_ne hb]
        rw [eF]
        have S3 := (S2.del z2 hoA hbA).newZ (o := .xd [(f, y)]) nd
        have up : ∀ b o, H1 b = some o → upd (L2.del H2 a) dx (.xd [(f, y)]) b = some o := fun b o e => by
          have hb : b ≠ dx := fun w => by rw [w, n1] at e; cases e
          have hba : b ≠ a := fun w => by rw [w, na] at e; cases e
          rw [upd_ne hb, del_ne hba]
          exact E2.same b o (upd_le na b o e)
        have zx : Z2 dx = none := S2.zfree nx
        refine p1 (.ref C) (some dx) σ _ _ S3 ⟨fun b o e _ => up b o e, E2.step.le.trans (upd_le zx), fun b o e => ?_, fun b w => .inl w, fun b ⟨o, e⟩ => ⟨o, up b o e⟩, fun i d0 w => ⟨w, rfl⟩, fun i d0 w o => ⟨⟨d0, w, o⟩, rfl⟩⟩ ⟨C, hm, rfl, .inr ⟨by simp, dx, [(f, y)], rfl, upd_same, y, [], rfl, ry.mono (upd_le zx), rfl⟩⟩
        by_cases hb : b = dx
        · subst hb; exact .inr (.inl n1)
        · rw [upd_ne hb] at e
          rcases E2.step.grow b o e with w | w | w
          · exact .inl w
          · refine .inr (.inl ?_)
            by_cases hba : b = a
            · rw [hba]; exact na
            · rw [upd_ne hba] at w; exact w
          · exact .inr (.inr w)
end
end CI
end
section
set_option maxRecDepth 100000
set_option maxHeartbeats 4000000
/-! CIXs: in an except suite: the error's field, isinstance of the error, whatever its dict. -/
namespace CI
open PySem L2 PyProof.Rows PySem.W
section
variable {prog : Program} {w : World} {A : Around} {E : Value → Shared → Prop} {s : Shared} {K : Frag} {x D : Addr} {ox : Obj} {od : Option Obj}
theorem obj_data {C : Addr} {name : Str} {a g : Value} (hc : (clsIn K C).isSome = true) (ha : findIn K (.ref C) name = some (some a)) (hg : specialIn K a "__get__" = some (some g)) (ht : takesIn K a = some true) : findObj K C od name = some (.bind g a) := by
  cases q : clsIn K C with
  | none => rw [q] at hc; cases hc
  | some cd => unfold findObj; rw [q]; simp [ha, hg, ht]
/-- __class__ of an error, its own dict there or not -/
theorem exc_class {Q : Option Value → Shared → Prop} (c : ExcC K D) (X : K.In s.heap) (I : InstAt s.heap x ox D od) (h : Q (some (.ref D)) { s with toks := s.toks + 1 }) : wpAny (model prog w) A (getAttr? (.ref x) "__class__") Q E s := by
  obtain ⟨cd, hcd, _⟩ := any_some c.hd
  have look : findObj K D od "__class__" = some (.bind (.builtin "getset_descriptor.__get__") (.builtin "object.__class__")) := obj_data (by rw [hcd]; rfl) c.ha c.hn c.ht
  obtain ⟨heap, gs, dr, tk, ops⟩ := s
  have typ := I.type (M := model prog w)
  have gaL := looks_findIn (M := model prog w) X c.hg
  have gkL := looks_findIn (M := model prog w) X c.hk
  have clL := looks_find (M := model prog w) X I look
  have inst : Looks (model prog w) heap (isInstance (.ref x) (.type "BaseException")) true := typ.andThen (looks_subIn X c.hs)
  have n0 : (Value.builtin "BaseException.__getattribute__" == Value.builtin "object.__getattribute__") = false := by decide +kernel
  have n1 : (onTheHeap (Value.ref D) && Value.builtin "BaseException.__getattribute__" == Value.builtin "object.__getattribute__") = false := by rw [n0]; rfl
  have n2 : (false && onTheHeap (Value.builtin "BaseException.__getattribute__")) = false := rfl
  unfold getAttr? getAttrBy? getAttrBy
  refine wpAny_bind (wpAny_mkText (wpAny_bind (wpAny_attempt (wpAny_holding (wpAny_bind (typ.at (wpAny_bind (gaL.at ?_))))))))
  show wpAny _ _ (if (onTheHeap (Value.ref D) && Value.builtin "BaseException.__getattribute__" == Value.builtin "object.__getattribute__") = true then _ else _) _ _ _
  rw [n1, if_neg Bool.false_ne_true]
  unfold getAttrByItsOwn hookBefore
  refine wpAny_bind ?_
  rw [if_pos (show onTheHeap (Value.ref D) = true from rfl)]
  refine gkL.at (wpAny_bind (wpAny_attempt (wpAny_holding ?_)))
  unfold callGetattribute
  rw [n2, if_neg Bool.false_ne_true]
  unfold boundAndCalled
  rw [PySem.F.excAttr_ValueError.ga.bind (.ref x)]
  refine wpAny_bind (wpAny_pure ?_)
  show wpAny _ _ (call (.builtin "BaseException.__getattribute__") [.ref x, .str "__class__" tk]) _ _ _
  refine wpAny_call (codeAny_call_builtin PySem.F.excAttr_ValueError.ga.plain PySem.F.entry_bexc_ga ?_)
  refine @check_slot (model prog w) _ _ ⟨heap, gs, dr, tk + 1, ops⟩ "BaseException.__getattribute__" "BaseException" "__getattribute__" (.ref x) [.str "__class__" tk] [] _ (by decide +kernel) (by decide +kernel) inst (PySem.F.args_bexc_ga (.ref x) (.str "__class__" tk)) ?_
  unfold Builtin.«object.__getattribute__»
  refine wpAny_bind (wpAny_of_eq (a := ((Value.ref x : Value), [Value.str "__class__" tk])) (by first | rfl | (simp only [slotArgs]; rfl)) ?_)
  refine wpAny_bind (wpAny_pure (wpAny_bind (typ.at (wpAny_bind (clL.at ?_)))))
  show wpAny _ _ (holding [Value.builtin "object.__class__"] (call (.builtin "getset_descriptor.__get__") [.builtin "object.__class__", .ref x, .ref D]) >>= PySem.ret) _ _ _
  refine wpAny_bind (wpAny_holding (wpAny_call (class_get (s := ⟨heap, gs, dr, tk + 1, ops⟩) (ox := ox) (od := od) X I c.hm ?_)))
  refine wpAny_pure ?_
  show wpAny _ _ (handedOut (.ref D)) _ _ _
  rw [handedOut_of (v := .ref D) rfl]
  first
    | exact wpAny_pure (wpAny_pure h)
    | exact wpAny_pure h
    | exact wpAny_pure (wpAny_bind (wpAny_pure (wpAny_pure h)))
theorem exc_kit (c : ExcC K D) : KitX K (.ref x) (.ref D) (fun h => InstAt h x ox D od) := by
  obtain ⟨cd, hcd, _⟩ := any_some c.hd
  have hcl : ∃ oc odd osl, K.lookup D = some ⟨oc, odd, .cls cd, osl⟩ := by
    unfold clsIn at hcd
    split at hcd
    · rename_i c' d' cd' sl' ho
      cases hcd
      exact ⟨_, _, _, ho⟩
    · cases hcd
  obtain ⟨oc, odd, osl, hD⟩ := hcl
  refine ⟨fun _ _ _ I => I.type, fun _ _ X _ => fun A' Q' E' s' k q => ?_, fun h tp dd its n sl X htp => ?_, fun X I k => exc_class c X I k⟩
  · unfold isType loadHead
    exact wpAny_bind (wpAny_loadPart (k _ _ (X _ _ hD)) (wpAny_pure q))
  · refine Bool.eq_false_iff.mpr fun q => ?_
    have e : D = tp := Value.ref.inj (beq_iff_eq.mp q)
    subst e
    cases (X _ _ hD).symm.trans htp
end
/-- e.f in a suite, e its error: the classes cs have the field -/
def cXF (cs : List Str) (i : Nat) (f : Str) : Mn Rv := fun ρ => match ρ[i]? with
  | some (.exn x) => (match x.2.lookup f with
    | some d => if x.1 ∈ cs then .ok (.val d) ρ else .stuck
    | none => .stuck)
  | _ => .stuck
def XfOk (E : Ev) (cs : List Str) (f : Str) : Prop := ∀ x ∈ cs, ∀ C, E.mg x = some (.ref C) → XfC E.K C ∧ findIn E.K (.ref C) f = some none
/-- isinstance(e, c), e an error with or without fields -/
def cIsX (i : Nat) (su : Str → Option Bool) : Mn Rv := fun ρ => match ρ[i]? with
  | some (.exn x) => (match su x.1 with
    | some b => .ok (.val (.bl b)) ρ
    | none => .stuck)
  | _ => .stuck
section
variable {X : Cx} {n f : Str} {i : Nat} {a : Addr} {oe : Obj} {pn : List (Addr × Obj)} {pe pos pp pc : Pos} {cs : List Str}
theorem se_xf (hE : XfOk (ev X) cs f) (hi : X.N[i]? = some n) (hv : Vis X.env.scope n) (hb : attributeBase (.Name n pe) f X.env (eval (.Name n pe) X.env) = eval (.Name n pe) X.env := by rfl) (hd : (n == ("__debug__" : Str)) = false := by decide) (hcd : (n == ("__classdict__" : Str)) = false := by decide) :
    SE (X.suite a ((a, oe) :: pn)) (.Attribute (.Name n pe) f pos) (cXF cs i f) :=
  ⟨fun W tk => ⟨fun pins s σ H Q I ⟨ρ, Z, S, p⟩ => by
    unfold cXF at p
    cases q : ρ[i]? with
    | none => rw [q] at p; exact p.elim
    | some sl =>
      rw [q] at p
      cases sl with
      | exn y =>
        obtain ⟨a', oe', C, e1, e2, e3, e4, e5, e6⟩ := S.slot i _ q
        cases e1
        simp only at p
        cases hl : y.2.lookup f with
        | none => rw [hl] at p; exact p.elim
        | some d =>
          rw [hl] at p
          simp only at p
          split at p
          · rename_i hm
            obtain ⟨T, hno⟩ := hE y.1 hm C e3
            rcases e6 with ⟨w, _⟩ | ⟨_, dd, gs, g1, g2, g3⟩
            · rw [w] at hl; cases hl
            · obtain ⟨v, hv1, hv2⟩ := g3.lookup hl
              have R := pe_xf (X := X) (a := a) (oe := oe) (pn := pn) (cls := .ref C) (d := some dd) (n := f) (pos := pos) T hno ⟨e4, g1⟩ e5 (pe_var (X := X.suite a ((a, oe) :: pn)) (i := i) (x := n) (pos := pe) hi hv hd hcd) hb
              exact R.run pins s σ H Q I ⟨_, e2, rfl, rfl, dd, gs, v, rfl, S.sub _ _ g2, hv1, Po.out (k := kE) (a := .val d) p S hv2⟩
          · exact p.elim
      | _ => exact p.elim⟩⟩
/-- isinstance, the error's dict there or not -/
theorem call_isX {D : Addr} {od : Option Obj} {c : V} {cv : Value} {b : Bool} (C : ExcC X.K D) (hcv : ∀ u, RelV c u → u = cv) (hk : kitOne X.K (.ref D) cv = some b) {pins : List (Addr × Obj)} {s : Shared} {σ : L2.St} {H : Hp} {us : List Value} {Q : VK} (I : Inv (X.suite a ((a, oe) :: pn)) pins σ H s) (r : Vals [.ref a, c] us) (J : InstAt s.heap a oe D od) (h : Q (.bl b) H) :
    wpAny (model (X.suite a ((a, oe) :: pn)).prog (X.suite a ((a, oe) :: pn)).w) (X.suite a ((a, oe) :: pn)).A (call (.builtin "isinstance") us) (EP (X.suite a ((a, oe) :: pn)) pins σ Q) (X.suite a ((a, oe) :: pn)).xe s := by
  cases r with
  | cons rx rr =>
    cases rr with
    | cons rt rr =>
      cases rr
      cases rx
      have ec := hcv _ rt
      subst ec
      exact kia_one (exc_kit C) I.kIn J hk (fun z => nomatch z) fun tk => ⟨.bl b, H, I.kept (t' := tk) fun _ _ z => z, rfl, h⟩
theorem se_isX {cn : Str} {cv : Value} {vc : V} {su : Str → Option Bool} (hE : IsEOk (ev X) cv su) (hi : X.N[i]? = some n) (hv : Vis X.env.scope n) (hg : Gl X "isinstance") (hm : X.mg "isinstance" = none)
    (hc : PE (X.suite a ((a, oe) :: pn)) (.Name cn pc) (tC vc)) (hvc : ∀ u, RelV vc u → u = cv) (hd : (n == ("__debug__" : Str)) = false := by decide) (hcd : (n == ("__classdict__" : Str)) = false := by decide) :
    SE (X.suite a ((a, oe) :: pn)) (.Call (.Name "isinstance" pp) [.Name n pe, .Name cn pc] [] pos) (cIsX i su) :=
  ⟨fun W tk => ⟨fun pins s σ H Q I ⟨ρ, Z, S, p⟩ => by
    unfold cIsX at p
    cases q : ρ[i]? with
    | none => rw [q] at p; exact p.elim
    | some sl =>
      rw [q] at p
      cases sl with
      | exn y =>
        obtain ⟨a', oe', C, e1, e2, e3, e4, ⟨vs, e5⟩, e6⟩ := S.slot i _ q
        cases e1
        simp only at p
        cases hb : su y.1 with
        | none => rw [hb] at p; exact p.elim
        | some b =>
          rw [hb] at p
          obtain ⟨ex, hk⟩ := hE y.1 C b hb e3
          have cr : CallR (X.suite a ((a, oe) :: pn)) (.builtin "isinstance") (fun xs H' Q' => xs = [.ref a, vc] ∧ (∃ dZ : Hp, Le dZ H' ∧ ((oe.dict = none) ∨ ∃ dd gs, oe.dict = some dd ∧ dZ dd = some (.xd gs))) ∧ Q' (.bl b) H') := by
            intro pins' s' σ' H' xs us Q' I' r' ⟨ex', hd', hq⟩
            subst ex'
            obtain ⟨hget, _⟩ := I'.pin (a, oe) (List.mem_append.mpr (.inl List.mem_cons_self))
            obtain ⟨dZ, sub, hd'⟩ := hd'
            rcases hd' with hn | ⟨dd, gs, hn, hz⟩
            · exact call_isX (X := X) (od := none) ex hvc hk I' r' ⟨hget, e4, by unfold notCls; rw [e5], by rw [hn]; trivial⟩ hq
            · have hx : ObjOk X.prog X.w H' s'.heap dd (.xd gs) := I'.hok dd _ (sub _ _ hz)
              obtain ⟨mA, ⟨od, _, _, ho, _⟩, _⟩ := hx
              exact call_isX (X := X) (od := some od) ex hvc hk I' r' ⟨hget, e4, by unfold notCls; rw [e5], by rw [hn]; exact ho⟩ hq
          have R := pe_callB (X := X.suite a ((a, oe) :: pn)) (p := pp) (pos := pos) (x := "isinstance") cr hg hm (by decide +kernel) (pa_cons (pe_var (i := i) (x := n) (pos := pe) hi hv hd hcd) (pa_cons hc pa_nil (by rfl)) (by rfl)) (by decide) (by decide) (by rfl) (by rfl)
          refine R.run pins s σ H Q I ⟨_, e2, rfl, ⟨Z, S.sub, e6.imp (fun w => w.2) fun ⟨_, dd, gs, g1, g2, _⟩ => ⟨dd, gs, g1, g2⟩⟩, ?_⟩
          exact Po.out (k := kE) (a := .val (.bl b)) p S rfl
      | _ => exact p.elim⟩⟩
end
end CI
end
section
set_option maxRecDepth 100000
set_option maxHeartbeats 2000000
/-! CIXh: the facts of own errors with a field, read off the top. -/
namespace CI
open PySem L2 PyProof.Rows PySem.W
abbrev FnX : Type := Option (Str × Str × Arguments × FuncBody × Scope × Addr × Addr)
/-- the __init__ of the class c -/
def fnXi (K : PySem.W.Frag) (c : Str) : FnX := match K.lookup (He.fAd K (c, some "__init__")) with
  | some ⟨_, _, .func fd, _⟩ => some (fd.name, fd.qualname, fd.params, fd.body, fd.scope, fd.globals, fd.builtins)
  | _ => none
structure XiD where
  cls : Str
  qual : Str
  params : Arguments
  body : List Stmt
  scope : Scope
def XiD.val (d : XiD) : FnX := some ("__init__", d.qual, d.params, .stmts d.body, d.scope, mainGlobals, builtinsNs)
def oexB (K : PySem.W.Frag) (C : Addr) : Bool := (match K.lookup C with
    | some ⟨.type t, _, .cls cd, sl⟩ => (match cd.mro, sl.toList with
      | .ref C' :: bm, [_, _, _, _, some (.builtin n), _] => decide (t = "type") && (decide (C' = C) && (decide (n = "ValueError.__new__") && (!cd.hasDel && (cd.hasDict && PySem.HandSPX.refsVE bm))))
      | _, _ => false)
    | _ => false) && (decide (findIn K (.ref C) "__setattr__" = some (some (.builtin "object.__setattr__"))) && (decide (subIn K (.ref C) (.type "BaseException") = some true) && (decide (typeIn K (.ref C) = some (.type "type")) && keepIn K (.ref C))))
theorem ba2 {a b : Bool} (h : (a && b) = true) : a = true ∧ b = true := Bool.and_eq_true_iff.mp h
theorem oexB_ok {K : PySem.W.Frag} {C : Addr} (h : oexB K C = true) : OexC K C := by
  obtain ⟨h0, h⟩ := ba2 h
  obtain ⟨h1, h⟩ := ba2 h
  obtain ⟨h2, h⟩ := ba2 h
  obtain ⟨h3, h4⟩ := ba2 h
  refine ⟨?_, of_decide_eq_true h1, of_decide_eq_true h2, of_decide_eq_true h3, h4⟩
  cases q : K.lookup C with
  | none => rw [q] at h0; cases h0
  | some o =>
    obtain ⟨oc, od, dt, sl⟩ := o
    rw [q] at h0
    cases oc with
    | type t =>
      cases dt with
      | cls cd =>
        obtain ⟨nm, bs, mro, ns, qn, hd, sn, sub, ab, col, del⟩ := cd
        obtain ⟨l⟩ := sl
        simp only at h0
        split at h0
        · rename_i C' bm k0 k1 k2 k3 n k5
          obtain ⟨g1, h0⟩ := ba2 h0
          obtain ⟨g2, h0⟩ := ba2 h0
          obtain ⟨g3, h0⟩ := ba2 h0
          obtain ⟨g4, h0⟩ := ba2 h0
          obtain ⟨g5, g6⟩ := ba2 h0
          cases of_decide_eq_true g1
          cases of_decide_eq_true g2
          cases of_decide_eq_true g3
          have g4 : del = false := by simpa using g4
          have g5 : hd = true := g5
          subst g4 g5
          exact ⟨nm, qn, ns, bs, bm, sn, sub, ab, col, od, k0, k1, k2, k3, k5, rfl, g6⟩
        · cases h0
      | _ => cases h0
    | _ => cases h0
def cellB (K : PySem.W.Frag) (cc C : Addr) : Bool := match K.lookup cc with
  | some ⟨_, _, .cell (some (.ref c)), _⟩ => decide (c = C)
  | _ => false
def codB (P : Program) (K : PySem.W.Frag) (cda : Addr) : Bool := match K.lookup cda with
  | some ⟨_, _, .fields vs, _⟩ => (match (vs : Array Value)[2]? with
    | some (Value.str file _) => (P.main.file : Str) == file
    | _ => false)
  | _ => false
def xiB (P : Program) (K : PySem.W.Frag) (d : XiD) : Bool := match K.lookup (He.fAd K (d.cls, some "__init__")) with
  | some ⟨_, _, .func fd, _⟩ => (match fd.closure, fd.code with
    | [(n, cc)], .ref cda => decide (n = "__class__") && (cellB K cc (He.ga K d.cls) && (codB P K cda && (codeIn K fd.code d.qual && (oexB K (He.ga K d.cls) && (decide (findIn K (.ref (He.ga K d.cls)) "__init__" = some (some (.ref (He.fAd K (d.cls, some "__init__"))))) &&
        (decide (typeIn K (.ref (He.fAd K (d.cls, some "__init__"))) = some (.type "function")) && (decide (ks_superIn K (He.ga K d.cls) (He.ga K d.cls) "__init__" = some (some (.builtin "ValueError.__init__"))) && (decide (mroIn K (He.ga K d.cls) (.ref (He.ga K d.cls)) = some true) &&
          (decide (subIn K (.ref (He.ga K d.cls)) (.type "ValueError") = some true) && (decide (nsIn K cStatics "thirdparty.any" = some none) && (decide (nsIn K mainGlobals "super" = some none) && (!(P.main.scope.names.lookup ("super" : Str)).isSome && decide (fd.defaults = .none)))))))))))))
    | _, _ => false)
  | _ => false
structure XiOk (P : Program) (K : PySem.W.Frag) (mg : Str → Option Value) (d : XiD) : Prop where
  ex : ∃ fd cc cda dV, XiK P K mg (He.ga K d.cls) (He.fAd K (d.cls, some "__init__")) d.qual d.params d.body d.scope cc cda fd ∧ (∃ kV doc pm an ct, fd = ksFn "__init__" d.qual d.params d.body d.scope dV kV doc pm an (.ref cda) ct cc) ∧ dV = Value.none
  ini : findIn K (.ref (He.ga K d.cls)) "__init__" = some (some (.ref (He.fAd K (d.cls, some "__init__"))))
  ty : typeIn K (.ref (He.fAd K (d.cls, some "__init__"))) = some (.type "function")
theorem xi_ok {P : Program} {K : PySem.W.Frag} {mg : Str → Option Value} {h : Heap} {d : XiD} (e : fnXi K d.cls = d.val) (c : xiB P K d = true) (I : K.In h) (G : h.Ns mainGlobals mg) : XiOk P K mg d := by
  unfold fnXi at e
  unfold xiB at c
  cases q : K.lookup (He.fAd K (d.cls, some "__init__")) with
  | none => rw [q] at c; cases c
  | some o =>
    obtain ⟨oc, od, dt, osl⟩ := o
    rw [q] at c e
    cases dt with
    | func fd =>
      obtain ⟨n1, n2, n3, n4, n5, n6, n7, n8, n9, n10, n11, n12, n13, n14, n15⟩ := fd
      have e2 : (some (n1, n2, n3, n4, n5, n6, n15) : FnX) = (some (("__init__" : Str), d.qual, d.params, FuncBody.stmts d.body, d.scope, mainGlobals, builtinsNs) : FnX) := e
      simp only [Option.some.injEq, Prod.mk.injEq] at e2
      obtain ⟨rfl, rfl, rfl, rfl, rfl, rfl, rfl⟩ := e2
      simp only at c
      split at c
      · rename_i n cc cda
        obtain ⟨g1, c⟩ := ba2 c
        obtain ⟨g2, c⟩ := ba2 c
        obtain ⟨g3, c⟩ := ba2 c
        obtain ⟨g4, c⟩ := ba2 c
        obtain ⟨g5, c⟩ := ba2 c
        obtain ⟨g6, c⟩ := ba2 c
        obtain ⟨g7, c⟩ := ba2 c
        obtain ⟨g8, c⟩ := ba2 c
        obtain ⟨g9, c⟩ := ba2 c
        obtain ⟨g10, c⟩ := ba2 c
        obtain ⟨g11, c⟩ := ba2 c
        obtain ⟨g12, c⟩ := ba2 c
        obtain ⟨g13, g14⟩ := ba2 c
        cases of_decide_eq_true g1
        have g14 := of_decide_eq_true g14
        subst g14
        refine ⟨⟨_, cc, cda, Value.none, ⟨oexB_ok g5, ⟨oc, od, _, _, _, _, _, _, osl, rfl, q⟩, g4, ?_, ?_, of_decide_eq_true g8, of_decide_eq_true g9, of_decide_eq_true g10, of_decide_eq_true g11, ?_, by simpa using g13⟩, ⟨_, _, _, _, _, rfl⟩, rfl⟩, of_decide_eq_true g6, of_decide_eq_true g7⟩
        · unfold codB at g3
          cases q2 : K.lookup cda with
          | none => rw [q2] at g3; cases g3
          | some o2 =>
            obtain ⟨oc2, od2, dt2, osl2⟩ := o2
            rw [q2] at g3
            cases dt2 with
            | fields vs =>
              simp only at g3
              split at g3
              · rename_i file tf hv
                exact ⟨_, _, vs, _, file, tf, rfl, hv, g3⟩
              · cases g3
            | _ => cases g3
        · unfold cellB at g2
          cases q2 : K.lookup cc with
          | none => rw [q2] at g2; cases g2
          | some o2 =>
            obtain ⟨oc2, od2, dt2, osl2⟩ := o2
            rw [q2] at g2
            cases dt2 with
            | cell v =>
              cases v with
              | none => cases g2
              | some u =>
                cases u with
                | ref c =>
                  have g2 : decide (c = He.ga K d.cls) = true := g2
                  cases of_decide_eq_true g2
                  exact ⟨_, _, _, rfl⟩
                | _ => cases g2
            | _ => cases g2
        · exact mg_none_of I G (of_decide_eq_true g12)
      · cases c
    | _ => cases c
end CI
end
section
set_option maxRecDepth 100000
set_option maxHeartbeats 2000000
/-! CIXk: own errors' facts from the head; the hook. -/
namespace CI
open PySem L2 PyProof.Rows PySem.W
section
variable {P : Program} {w : World} {K : PySem.W.Frag} {mg : Str → Option Value} {base : Heap} {A : Around}
/-- all that is to be looked at in the text of such an __init__ -/
structure XTxt (d : XiD) (a b m f : Str) (j : Nat) (p0 p1 p2 p3 p4 p5 pa pf ps : Pos) (e2 : Expr) : Prop where
  body : d.body = [.Expr (supE m j p0 p1 p2 p3 p4) p5, .Assign [.Attribute (.Name a pa) f pf] e2 ps]
  sc : XScope a b d.scope
  par : ∃ ar rest, d.params.posonlyargs ++ d.params.args = ar :: rest ∧ ar.arg = a
  int : ∀ (L f : Addr) (cd : Value) (cc : Addr), interactive (envS d.qual d.scope L f cd cc) = false
  ev : ∀ (L f : Addr) (cd : Value) (cc : Addr), supEv m j p0 p1 p2 p3 p4 (envS d.qual d.scope L f cd cc)
  sw : ∀ (L g : Addr) (cd : Value) (cc : Addr), swapsWith e2 (some (.Attribute (.Name a pa) f pf)) ps.line (envS d.qual d.scope L g cd cc) = pure false
  da : (a == ("__debug__" : Str)) = false
  ca : (a == ("__classdict__" : Str)) = false
  db : (b == ("__debug__" : Str)) = false
  cb : (b == ("__classdict__" : Str)) = false
  bind : ∀ (kV doc pm : Value) (an : Option Addr) (cdv ct : Value) (cc : Addr) (us : List Value), us.length = 2 → bindArgs (ksFn "__init__" d.qual d.params d.body d.scope .none kV doc pm an cdv ct cc) ⟨us, []⟩ = pure ([a, b].zip us)
theorem xc_of {d : XiD} {a b m f : Str} {j : Nat} {p0 p1 p2 p3 p4 p5 pa pf ps : Pos} {e2 : Expr} {r : List V → Hp → VK → Prop} (X : XiOk P K mg d) (T : XTxt d a b m f j p0 p1 p2 p3 p4 p5 pa pf ps e2) (hmg : mg d.cls = some (.ref (He.ga K d.cls))) (hno : findIn K (.ref (He.ga K d.cls)) f = some none) (hr : Room 2 A)
    (mono : ∀ xs H (Q Q' : VK), (∀ y H', Q y H' → Q' y H') → r xs H Q → r xs H Q')
    (he2 : ∀ (fI cc : Addr) (cd : Value) (A : Around) (outer : List Env) (s : Shared) (H : Hp) (E : XK), ∃ te, PE (cxS CX0 P w K mg base [a, b] d.qual d.scope fI cd cc A outer s H E) e2 te ∧ ∀ (σ : L2.St) (H : Hp) (v : V) (Q : VK), σ[(1 : Nat)]? = some (some v) → r [v] H Q → te σ H Q) :
    XcOk ⟨P, w, K, mg, base, A⟩ d.cls f r := by
  obtain ⟨⟨fd, cc, cda, dV, XK, ⟨kV, doc, pm, an, ct, efd⟩, edV⟩, hini, hty⟩ := X
  subst edV
  obtain ⟨ar, rest, har, hara⟩ := T.par
  have XK2 : XiK P K mg (He.ga K d.cls) (He.fAd K (d.cls, some "__init__")) d.qual d.params [.Expr (supE m j p0 p1 p2 p3 p4) p5, .Assign [.Attribute (.Name a pa) f pf] e2 ps] d.scope cc cda fd := T.body ▸ XK
  have F := xinit_of (w := w) (base := base) (k := 0) XK2 T.sc har hara (fun L => T.int L _ _ _) (fun L => T.ev L _ _ _) hno T.da T.ca (fun L => T.sw L _ _ _) (fun A outer s H E => he2 _ _ _ A outer s H E) mono
  refine ⟨1, He.ga K d.cls, He.fAd K (d.cls, some "__init__"), fd, [a, b], hmg, XK.T, hini, hty, ?_, F, hr⟩
  subst efd
  exact .all fun us hl => T.bind kV doc pm an (.ref cda) ct cc us hl
/-- self.f = the argument -/
theorem xc_keep {d : XiD} {a b m f : Str} {j : Nat} {p0 p1 p2 p3 p4 p5 pa pf ps pb : Pos} (X : XiOk P K mg d) (T : XTxt d a b m f j p0 p1 p2 p3 p4 p5 pa pf ps (.Name b pb)) (hmg : mg d.cls = some (.ref (He.ga K d.cls))) (hno : findIn K (.ref (He.ga K d.cls)) f = some none) (hr : Room 2 A) :
    XcOk ⟨P, w, K, mg, base, A⟩ d.cls f rId :=
  xc_of X T hmg hno hr rId_mono fun fI cc cd A outer s H E => ⟨_, pe_var (i := 1) rfl (.inl T.sc.lb) T.db T.cb, fun σ H v Q h q => by
    obtain ⟨y, e, q⟩ := q
    cases e
    exact ⟨v, h, q⟩⟩
/-- self.f = tuple(the argument) -/
theorem xc_tupl {d : XiD} {a b m f : Str} {j : Nat} {p0 p1 p2 p3 p4 p5 pa pf ps pb pt pc : Pos} (X : XiOk P K mg d) (T : XTxt d a b m f j p0 p1 p2 p3 p4 p5 pa pf ps (.Call (.Name "tuple" pt) [.Name b pb] [] pc)) (hmg : mg d.cls = some (.ref (He.ga K d.cls))) (hno : findIn K (.ref (He.ga K d.cls)) f = some none) (hr : Room 2 A)
    (htl : d.scope.names.lookup ("tuple" : Str) = some .globalImplicit) (hmt : mg "tuple" = none) : XcOk ⟨P, w, K, mg, base, A⟩ d.cls f (rTp K) :=
  xc_of X T hmg hno hr rTp_mono fun fI cc cd A outer s H E => ⟨_, pe_callTy call_tuple_of htl hmt PyProof.Rows.boot_tuple (pa_cons (pe_var (i := 1) rfl (.inl T.sc.lb) T.db T.cb) pa_nil (by rfl)) (by decide) (by decide) (by rfl) (by rfl), fun σ H v Q h q => ⟨v, h, q⟩⟩
end
/-- which of these classes have the field f, as own attributes -/
def xfsB (K : PySem.W.Frag) (cs : List Str) (f : Str) : Bool := cs.all fun c => xfB K (He.ga K c) && decide (findIn K (.ref (He.ga K c)) f = some none)
theorem xfs_ok {P : Program} {w : World} {K : PySem.W.Frag} {mg : Str → Option Value} {base : Heap} {A : Around} {cs : List Str} {f : Str} (hg : ∀ c ∈ cs, mg c = some (.ref (He.ga K c))) (h : xfsB K cs f = true) : XfOk ⟨P, w, K, mg, base, A⟩ cs f := fun x hx C hm => by
  have h1 := List.all_eq_true.mp h x hx
  have h2 : mg x = some (.ref (He.ga K x)) := hg x hx
  cases h2.symm.trans hm
  obtain ⟨a, b⟩ := ba2 h1
  exact ⟨xfB_ok a, of_decide_eq_true b⟩
/-! ### the hook -/
structure SaysM (fa : List He.Fa) (fn : List He.DefD) (xi : List XiD) (ex : PySem.W.Frag → Bool) (K : PySem.W.Frag) : Prop where
  l : SaysL fa fn ex K
  x : xi.map (fun d => fnXi K d.cls) = xi.map XiD.val
abbrev AlM : Type := AlL × List FnX
/-- what is seen: what hangs on the top's names, and the statics -/
def frX (n : Nat) (g : Addr → Option Obj) : PySem.W.Frag := frN g (cStatics :: He.asD g n)
def obsM (n : Nat) (fa : List He.Fa) (fn : List He.DefD) (xi : List XiD) (ex : PySem.W.Frag → Bool) (g : Addr → Option Obj) : AlM := ((He.obsD fa fn (frX n g), ex (frX n g)), xi.map fun d => fnXi (frX n g) d.cls)
def hookM (n : Nat) (fa : List He.Fa) (fn : List He.DefD) (xi : List XiD) (ex : PySem.W.Frag → Bool) : PySem.W.Hook where
  α := AlM
  obs := fun s => obsM n fa fn xi ex s.heap.get?
  val := fun _ => ((He.valD fn, true), xi.map XiD.val)
  says := fun _ h => ∃ K : PySem.W.Frag, K.In h ∧ SaysM fa fn xi ex K
  of := fun _ _ e => ⟨_, fun _ _ h => (frN_mem h).1, ⟨⟨congrArg (fun z : AlM => z.1.1) e, congrArg (fun z : AlM => z.1.2) e, fun _ _ h => (frN_mem h).2⟩, congrArg (fun z : AlM => z.2) e⟩⟩
  keeps := fun _ _ _ ⟨K, hK, c⟩ k => ⟨K, PySem.W.Frag.In.keeps hK k, c⟩
theorem obsM_eq {n : Nat} {fa : List He.Fa} {fn : List He.DefD} {xi : List XiD} {ex : PySem.W.Frag → Bool} {g : Addr → Option Obj} {s : Shared} (h : ∀ a, g a = s.heap.get? a) : obsM n fa fn xi ex g = (hookM n fa fn xi ex).obs s := by
  have e : g = s.heap.get? := funext h
  rw [e] <;> rfl
theorem SaysM.xi {fa : List He.Fa} {fn : List He.DefD} {xi : List XiD} {ex : PySem.W.Frag → Bool} {K : PySem.W.Frag} (c : SaysM fa fn xi ex K) {d : XiD} (h : d ∈ xi) : fnXi K d.cls = d.val := by
  obtain ⟨i, hi⟩ := List.getElem?_of_mem h
  have e2 : (xi.map fun d => fnXi K d.cls)[i]? = (xi.map XiD.val)[i]? := by rw [c.x]
  rw [List.getElem?_map, List.getElem?_map, hi] at e2
  exact Option.some.inj e2
end CI
end
section
set_option maxRecDepth 100000
set_option maxHeartbeats 2000000
/-! CIMo: list(range(..)), xs[::-1], xs.index(k), len(set(ns)), is of bools, calls without arguments. -/
namespace CI
open PySem L2 PyProof.Rows
section
variable {X : Cx} {a b e o : Expr} {ca cb c co : Mn Rv} {p q pos apos : Pos} {x : Str} {es : List Expr} {cs : Mn (List Rv)}
/-! ### is -/
def oIsB : D → D → Option Rv
  | .bl a, .bl b => vB (decide (a = b))
  | _, _ => none
def oNotB : D → D → Option Rv
  | .bl a, .bl b => vB (!decide (a = b))
  | _, _ => none
theorem fits_isB : Fits2 X (fun x y H Q => ∃ a b, x = .bl a ∧ y = .bl b ∧ Q (.bl (decide (a = b))) H) oIsB := by
  intro ρ σ H Z dx dy x y rv Q S h1 h2 e k
  unfold oIsB at e
  split at e
  · cases e; exact ⟨_, _, rd_bl h1, rd_bl h2, k _ _ _ S (.refl _ _ _ _) rfl⟩
  · cases e
theorem fits_notB : Fits2 X (fun x y H Q => ∃ a b, x = .bl a ∧ y = .bl b ∧ Q (.bl (!decide (a = b))) H) oNotB := by
  intro ρ σ H Z dx dy x y rv Q S h1 h2 e k
  unfold oNotB at e
  split at e
  · cases e; exact ⟨_, _, rd_bl h1, rd_bl h2, k _ _ _ S (.refl _ _ _ _) rfl⟩
  · cases e
/-! ### list(range(..)) -/
def rgDi (i j : Int) : List D := (List.range (j - i).toNat).map fun k => .int (i + (k : Nat))
def rgOkB (i j : Int) : Bool := decide (-(2 ^ 62) ≤ i) && (decide (i < 2 ^ 62) && (decide (-(2 ^ 62) ≤ j) && (decide (j < 2 ^ 62) && decide ((j - i).toNat ≤ 2 ^ 24))))
theorem rgOkB_ok {i j : Int} (h : rgOkB i j = true) : RgOk i j := by
  unfold rgOkB at h
  simp only [Bool.and_eq_true, decide_eq_true_eq] at h
  exact ⟨h.1, h.2.1, h.2.2.1, h.2.2.2.1, h.2.2.2.2⟩
theorem reps_rg {T : Tx} {Z : Hp} (i j : Int) : Reps T Z (rgDi i j) (rgV i j) := by
  unfold rgDi rgV
  generalize List.range (j - i).toNat = l
  induction l with
  | nil => rfl
  | cons k l ih => exact ⟨_, _, rfl, rfl, ih⟩
def gLrg1 : D → Option Rv
  | .int n => if rgOkB 0 n then some (.own (.lst (rgDi 0 n))) else none
  | _ => none
def gLrg2 : D → D → Option Rv
  | .int i, .int n => if rgOkB i n then some (.own (.lst (rgDi i n))) else none
  | _, _ => none
theorem se_lrg1 {p1 q1 : Pos} (hc : X.calm = true) (hg : Gl X "list") (hm : X.mg "list" = none) (hg2 : Gl X "range") (hm2 : X.mg "range" = none) (ha : SE X a ca) (na : starEach [a] X.env = (false, eval a X.env) :: starEach [] X.env := by rfl)
    (nb : starEach [(.Call (.Name "range" p1) [a] [] q1)] X.env = (false, eval (.Call (.Name "range" p1) [a] [] q1) X.env) :: starEach [] X.env := by rfl) : SE X (.Call (.Name "list" p) [.Call (.Name "range" p1) [a] [] q1] [] pos) (cUn gLrg1 ca) :=
  ⟨fun W tk => peI (pe_listRg hc hg hm (prg_1 hg2 hm2 (ha.run W tk) na) nb) (un_ok (r := fun x H1 Q => ∃ n, x = .int n ∧ RgOk 0 n ∧ ∀ q, H1 q = none → Q (.ref q) (upd H1 q (.lst (rgV 0 n)))) fun {ρ σ H Z d x rv Q} S h e k => by
    unfold gLrg1 at e
    split at e
    · split at e
      · rename_i hz
        cases e
        exact ⟨_, rd_int h, rgOkB_ok hz, fun q hq => k _ _ _ (S.new hq) (EStep.new hq) (rv_lst S hq (reps_rg _ _))⟩
      · cases e
    · cases e)⟩
theorem se_lrg2 {p1 q1 : Pos} (hc : X.calm = true) (hg : Gl X "list") (hm : X.mg "list" = none) (hg2 : Gl X "range") (hm2 : X.mg "range" = none) (ha : SE X a ca) (hb : SE X b cb) (na : starEach [a, b] X.env = (false, eval a X.env) :: starEach [b] X.env := by rfl)
    (nb1 : starEach [b] X.env = (false, eval b X.env) :: starEach [] X.env := by rfl) (hp : (backTo q1 (starEach [b] X.env)).any (·.1) = false := by rfl)
    (nb : starEach [(.Call (.Name "range" p1) [a, b] [] q1)] X.env = (false, eval (.Call (.Name "range" p1) [a, b] [] q1) X.env) :: starEach [] X.env := by rfl) : SE X (.Call (.Name "list" p) [.Call (.Name "range" p1) [a, b] [] q1] [] pos) (cBin gLrg2 ca cb) :=
  ⟨fun W tk => peI (pe_listRg hc hg hm (prg_2 hg2 hm2 (ha.run W tk) (hb.run W tk) na nb1 hp) nb) (bin_ok (r := fun x y H1 Q => ∃ i n, x = .int i ∧ y = .int n ∧ RgOk i n ∧ ∀ q, H1 q = none → Q (.ref q) (upd H1 q (.lst (rgV i n)))) fun {ρ σ H Z d d2 x y rv Q} S h h2 e k => by
    unfold gLrg2 at e
    split at e
    · split at e
      · rename_i hz
        cases e
        exact ⟨_, _, rd_int h, rd_int h2, rgOkB_ok hz, fun q hq => k _ _ _ (S.new hq) (EStep.new hq) (rv_lst S hq (reps_rg _ _))⟩
      · cases e
    · cases e)⟩
/-! ### xs[::-1] -/
def gRev : D → Option Rv
  | .lst ds => some (.own (.lst ds.reverse))
  | _ => none
theorem se_rev {k : Nat} {p1 p2 p3 : Pos} (he : SE X e c) : SE X (.Subscript e (.Slice none none (some (.UnaryOp .USub (.Constant (.int 1) k p1) p2)) p3) pos) (cUn gRev c) :=
  ⟨fun W tk => peI (pe_revL (he.run W tk)) (un_ok (r := fun x H1 Q => ∃ a xs, x = .ref a ∧ SqL X.K H1 a xs ∧ ∀ p, H1 p = none → Q (.ref p) (upd H1 p (.lst xs.reverse))) fun {ρ σ H Z d x rv Q} S h e k => by
    unfold gRev at e
    split at e
    · cases e
      obtain ⟨a, vs, rfl, q1, r1⟩ := rd_lst S.sub h
      exact ⟨a, vs, rfl, .inl q1, fun q hq => k _ _ _ (S.new hq) (EStep.new hq) (rv_lst S hq r1.reverse)⟩
    · cases e)⟩
/-! ### methods of lists -/
def isLstD : D → Bool
  | .lst _ => true
  | _ => false
def cML (g : D → List D → Option Rv) (co : Mn Rv) (cs : Mn (List Rv)) : Mn Rv := bnd co fun r => if isLstD r.d = true then bnd cs fun rs => ofO (g r.d (rs.map Rv.d)) else stk
def FitsM (X : Cx) (r : V → List V → Hp → VK → Prop) (g : D → List D → Option Rv) : Prop := ∀ {ρ σ H Z d x vs rs rv Q}, SOk (tx X) ρ σ H Z → RdOk (tx X) H Z x d → ArgsOk (tx X) H Z vs rs → g d (rs.map Rv.d) = some rv →
  (∀ v H' Z', SOk (tx X) ρ σ H' Z' → EStep ρ σ H Z ρ H' Z' → RvOk (tx X) ρ σ H ρ H' Z' v rv → Q v H') → r x vs H Q
theorem ml_ok {W : WX} {r : V → List V → Hp → VK → Prop} {g : D → List D → Option Rv} (hf : FitsM X r g) : ∀ σ H Q, tK kE (tx X) W (cML g co cs) σ H Q → tBM X.K "list" r (tK kE (tx X) W co) (tK kA (tx X) W cs) σ H Q := tE_of fun ρ σ H Z Q S p => ⟨ρ, Z, S, p.bnd (k1 := kE) fun rx vx ρ1 H1 Z1 S1 E1 o1 p1 => by
  by_cases hs : isLstD rx.d = true
  · rw [if_pos hs] at p1
    have rd := RvOk.read o1
    refine ⟨?_, ρ1, Z1, S1, p1.bnd (k1 := kA) fun rs vs ρ2 H2 Z2 S2 E2 o2 p2 => ?_⟩
    · cases hd : rx.d with
      | lst ds =>
        rw [hd] at rd
        obtain ⟨a, vs, rfl, q1, r1⟩ := rd_lst S1.sub rd
        exact .inl ⟨rfl, vs, .inl q1⟩
      | _ => rw [hd] at hs; cases hs
    · obtain ⟨rv, e, p5⟩ := p2.ofO
      exact hf S2 (rd.mono E2.same E2.step.le) o2 e fun v H' Z' S' E' o' => p5 v H' Z' S' E' o'
  · rw [if_neg hs] at p1; exact p1.elim⟩
def gIndex (d : D) : List D → Option Rv
  | [.int i] => (lstD d).bind fun ds => (intsD ds).bind fun ns => if i ∈ ns then vI (ns.idxOf i : Nat) else none
  | _ => none
theorem flat_ints (ns : List Int) : (ns.map V.int).all flatV = true := by induction ns with
  | nil => rfl
  | cons n ns ih => simpa [flatV] using ih
theorem fits_index : FitsM X (rIndex X.K) gIndex := fun {ρ σ H Z d x vs rs rv Q} S h ha e k => by
  match vs, rs, ha with
  | [v], [q], ha =>
    have e : gIndex d [q.d] = some rv := e
    have h2 := arg_rd ha.1
    generalize q.d = dq at e h2
    unfold gIndex at e
    split at e
    · rename_i i hi
      cases hi
      cases hl : lstD d with
      | none => rw [hl] at e; cases e
      | some ds =>
        rw [hl] at e
        simp only [Option.bind_some] at e
        cases hn : intsD ds with
        | none => rw [hn] at e; cases e
        | some ns =>
          rw [hn] at e
          simp only [Option.bind_some] at e
          split at e
          · rename_i hm
            cases e
            obtain ⟨a, rfl, q1⟩ := lst_ints (X := X) S.sub h (ns := ns) (by rw [hl]; exact hn)
            have hlt : ns.idxOf i < ns.length := List.idxOf_lt_length_of_mem hm
            refine ⟨a, ns.map V.int, .int i, ns.idxOf i, .int i, rfl, by rw [rd_int h2], q1, rfl, flat_ints ns, ?_, by simp [eqV], fun m z hmj hz => ?_, k _ _ _ S (.refl _ _ _ _) rfl⟩
            · rw [List.getElem?_map, List.getElem?_eq_getElem hlt, List.getElem_idxOf hlt] <;> rfl
            · rw [List.getElem?_map] at hz
              cases hz2 : ns[m]? with
              | none => rw [hz2] at hz; cases hz
              | some y =>
                rw [hz2] at hz
                cases hz
                have hml : m < ns.length := by omega
                have hy : ns[m] = y := by
                  rw [List.getElem?_eq_getElem hml] at hz2
                  exact Option.some.inj hz2
                have := List.not_of_lt_findIdx (p := (· == i)) (xs := ns) (i := m) hmj
                rw [hy] at this
                simpa [eqV] using this
          · cases e
    · cases e
  | [], [], _ => exact absurd e (by simp [gIndex])
  | _ :: _ :: _, _ :: _ :: _, _ => exact absurd e (by simp [gIndex])
theorem se_index (ho : SE X o co) (ha : SA X [e] cs) (hbase : attributeBase o "index" X.env (eval o X.env) = eval o X.env := by rfl)
    (hfew : ((backTo pos (starEach [e] X.env)).all (fun x => !x.1) && (backToKw pos (keywordEach [] X.env)).all (fun x => x.1.isSome)
      && decide ([e].length + ([] : List Keyword).length + (if ([] : List Keyword).isEmpty then 0 else 1) < 30)) = true := by rfl)
    (hline : (apos.endLine == pos.line) = true := by rfl) (hs : starEach [e] X.env = (false, eval e X.env) :: starEach [] X.env := by rfl) (hplain : (backTo pos (starEach [] X.env)).any (·.1) = false := by rfl) : SE X (.Call (.Attribute o "index" apos) [e] [] pos) (cML gIndex co cs) :=
  ⟨fun W tk => peI (pe_bm PySem.F.plainAttrs_list PySem.F.slot_list_index PySem.F.type_list_index mt_index (ho.run W tk) (ha.run W tk) hbase hfew hline hs hplain) (ml_ok fits_index)⟩
/-! ### len(set(ns)) -/
def tLenSetN (K : PySem.W.Frag) (ta : TE) : TE := fun σ H Q => ta σ H fun x H1 => ∃ (l : Addr) (ns : List Int), x = V.ref l ∧ SqL K H1 l (ns.map V.int) ∧ ns.length < 64 ∧ Q (.int (firstMet (fun i => ns.getD i 0) ns.length).length) H1
theorem pe_lenSetN {ta : TE} {p2 : Pos} (hc : X.calm = true) (hg : Gl X "len") (hm : X.mg "len" = none) (hg2 : Gl X "set") (hm2 : X.mg "set" = none) (ha : PE X a ta)
    (na : starEach [a] X.env = (false, eval a X.env) :: starEach [] X.env := by rfl) : PE X (.Call (.Name "len" p) [.Call (.Name "set" p2) [a] [] q] [] pos) (tLenSetN X.K ta) := by
  refine ⟨fun pins s σ H Q I h => ?_⟩
  refine Call_ (ld_blt I hg hm PySem.boot_len ?_)
  refine callWith_builtin1 (args_cons ?_ rfl) rfl rfl
  refine Call_ (ld_blt I hg2 hm2 boot_set ?_)
  refine callWith_type1 (args_cons (thn (ha.run pins s σ H _ I h) fun v s1 ⟨x, H1, I1, r1, q1⟩ => args_nil ?_) na) na rfl
  obtain ⟨l, ns, rfl, hq, h1, q1⟩ := q1
  cases r1
  obtain ⟨its, r, pl, hz⟩ := I1.list hq
  have hl : its.toArray.size = ns.length := by rw [List.size_toArray, ← r.length, List.length_map]
  have hle : (firstMet (fun i => ns.getD i 0) ns.length).length ≤ ns.length := firstMet_length_le _ _
  refine call_set_list (I1.ok.hd hc) pl.isList (ns := ns) (by simpa using r.ints) (by unfold scanBound; omega) fun h' tk hS hk => ?_
  rw [hl] at hS
  refine args_nil ?_
  obtain ⟨o, es, ep, t, ho, hex, hd, _, _, _, hf, hn⟩ := hS
  have I2 : Inv X pins σ H1 { s1 with heap := h', toks := tk } := I1.kept fun b o e => hk b o (Heap.lt_size e) e
  refine call_len_set ho hex hd hf (by rw [hn] <;> omega) ⟨.int (firstMet (fun i => ns.getD i 0) ns.length).length, H1, I2.tok _, ⟨_, by rw [hn]⟩, q1⟩
def gLenSet (d : D) : Option Rv := ((lstD d).bind intsD).bind fun ns => if ns.length < 64 then vI (firstMet (fun i => ns.getD i 0) ns.length).length else none
theorem se_lenSet {p2 : Pos} (hc : X.calm = true) (hg : Gl X "len") (hm : X.mg "len" = none) (hg2 : Gl X "set") (hm2 : X.mg "set" = none) (ha : SE X a ca) (na : starEach [a] X.env = (false, eval a X.env) :: starEach [] X.env := by rfl) :
    SE X (.Call (.Name "len" p) [.Call (.Name "set" p2) [a] [] q] [] pos) (cUn gLenSet ca) :=
  ⟨fun W tk => peI (pe_lenSetN hc hg hm hg2 hm2 (ha.run W tk) na) (un_ok (r := fun x H1 Q => ∃ (l : Addr) (ns : List Int), x = V.ref l ∧ SqL X.K H1 l (ns.map V.int) ∧ ns.length < 64 ∧ Q (.int (firstMet (fun i => ns.getD i 0) ns.length).length) H1) fun {ρ σ H Z d x rv Q} S h e k => by
    unfold gLenSet at e
    cases hn : (lstD d).bind intsD with
    | none => rw [hn] at e; cases e
    | some ns =>
      rw [hn] at e
      simp only [Option.bind_some] at e
      split at e
      · rename_i hz
        cases e
        obtain ⟨a, rfl, q1⟩ := lst_ints (X := X) S.sub h hn
        exact ⟨a, ns, rfl, q1, hz, k _ _ _ S (.refl _ _ _ _) rfl⟩
      · cases e)⟩
/-! ### a def without arguments -/
theorem se_call0 (hc : X.calm = true) {G : List Rv → Res} (C : COk (ev X) x G 0) (hg : Gl X x) (hdb : (x == ("__debug__" : Str)) = false := by decide) : SE X (.Call (.Name x p) [] [] pos) (cCallG G cNil) := by
  obtain ⟨k, f, fd, ps, ds, dvs, dd, G', hm, hk, hb, hd, hdd, hG, FO, hn, hr⟩ := C.ex
  have ht := tx_calm hc
  have FO : FnOk X.prog X.w X.K X.mg X.base (L2.CX X.prog X.w) k f fd ps (spF (tx X) G' ps.length) := by rw [ht]; exact FO
  have hdd : ∀ Z, Reps (tx X) Z dd dvs := by rw [ht]; exact hdd
  refine ⟨fun W tk => ⟨fun pins s σ H Q I ⟨ρ, Z, S, p⟩ => ?_⟩⟩
  have p1 : Po kE (tx X) ρ σ H Z (ofRes (G []) ρ) W Q := p
  refine wpAny_Call_Name_kw (ld_glob I hg hm ?_ hdb)
  refine PySem.W.callWith_K0 I.kIn hk (run_fnSD (E := WE W) (us := []) (vs := []) FO hr hb hd (passAt tk σ) I .nil ?_)
  rw [hG []] at p1
  exact ⟨Z, [] ++ dd.map Rv.val, S.sub, ArgsOk.append (hdd Z) True.intro, by simpa using hn, cpost_of S p1⟩
end
end CI
end
section
set_option maxRecDepth 100000
set_option maxHeartbeats 2000000
/-! CIDc: dict comprehensions, d[k], k in d. -/
namespace CI
open PySem L2 PyProof.Rows
/-! ### dicts as data -/
def dK : Key → D
  | .inl i => .int i
  | .inr x => .str x
def putKD (kvs : List (D × D)) (k : Key) (v : D) : List (D × D) :=
  if (kvs.any fun kv => decide (keyD kv.1 = some k)) = true then kvs.map (fun kv => if keyD kv.1 = some k then (kv.1, v) else kv) else kvs ++ [(dK k, v)]
def getKD (kvs : List (D × D)) (k : Key) : Option D := (kvs.find? fun kv => decide (keyD kv.1 = some k)).map (·.2)
theorem rep_key {T : Tx} {Z : Hp} {d : D} {q : Key} (h : Rep T Z d (kV q)) : keyD d = some q := by
  cases q with
  | inl i =>
    cases d with
    | int j => cases (show V.int i = .int j from h); rfl
    | non => exact absurd (show V.int i = .non from h) (by simp)
    | bl b => exact absurd (show V.int i = .bl b from h) (by simp)
    | str x => exact absurd (show V.int i = .str x from h) (by simp)
    | tup _ => obtain ⟨_, _, e, _⟩ := h; exact absurd (show V.int i = .ref _ from e) (by simp)
    | lst _ => obtain ⟨_, _, e, _⟩ := h; exact absurd (show V.int i = .ref _ from e) (by simp)
    | dic _ => obtain ⟨_, e, _⟩ := h; exact absurd (show V.int i = .ref _ from e) (by simp)
    | obj _ _ => obtain ⟨_, _, _, _, e, _⟩ := h; exact absurd (show V.int i = .ref _ from e) (by simp)
    | glo _ => obtain ⟨_, e, _⟩ := h; exact absurd (show V.int i = .ref _ from e) (by simp)
  | inr x =>
    cases d with
    | str y => cases (show V.str x = .str y from h); rfl
    | non => exact absurd (show V.str x = .non from h) (by simp)
    | bl b => exact absurd (show V.str x = .bl b from h) (by simp)
    | int j => exact absurd (show V.str x = .int j from h) (by simp)
    | tup _ => obtain ⟨_, _, e, _⟩ := h; exact absurd (show V.str x = .ref _ from e) (by simp)
    | lst _ => obtain ⟨_, _, e, _⟩ := h; exact absurd (show V.str x = .ref _ from e) (by simp)
    | dic _ => obtain ⟨_, e, _⟩ := h; exact absurd (show V.str x = .ref _ from e) (by simp)
    | obj _ _ => obtain ⟨_, _, _, _, e, _⟩ := h; exact absurd (show V.str x = .ref _ from e) (by simp)
    | glo _ => obtain ⟨_, e, _⟩ := h; exact absurd (show V.str x = .ref _ from e) (by simp)
theorem key_rep {T : Tx} {Z : Hp} {d : D} {q : Key} {v : V} (e : keyD d = some q) (h : Rep T Z d v) : v = kV q := by
  cases d with
  | int i => cases e; exact h
  | str i => cases e; exact h
  | _ => cases e
theorem rep_dK {T : Tx} {Z : Hp} (q : Key) : Rep T Z (dK q) (kV q) := by cases q <;> rfl
theorem RepK.len {T : Tx} {Z : Hp} : ∀ {ds : List (D × D)} {es : List (Key × V)}, RepK T Z ds es → ds.length = es.length
  | [], _, h => by rw [show _ = [] from h]; rfl
  | (k, d) :: ds, _, ⟨q, v, r, e, _, _, h⟩ => by rw [e, List.length_cons, List.length_cons, RepK.len h]
theorem RepK.any {T : Tx} {Z : Hp} {k : Key} : ∀ {ds : List (D × D)} {es : List (Key × V)}, RepK T Z ds es → (ds.any fun kv => decide (keyD kv.1 = some k)) = es.any fun kv => decide (kv.1 = k)
  | [], _, h => by rw [show _ = [] from h]; rfl
  | (kd, d) :: ds, _, ⟨q, v, r, e, h1, _, h⟩ => by
    rw [e, List.any_cons, List.any_cons, RepK.any h, rep_key h1]
    simp
theorem RepK.map {T : Tx} {Z : Hp} {k : Key} {d : D} {v : V} (hv : Rep T Z d v) : ∀ {ds : List (D × D)} {es : List (Key × V)}, RepK T Z ds es → RepK T Z (ds.map fun kv => if keyD kv.1 = some k then (kv.1, d) else kv) (es.map fun kv => if kv.1 = k then (kv.1, v) else kv)
  | [], _, h => by rw [show _ = [] from h]; rfl
  | (kd, d0) :: ds, _, ⟨q, v0, r, e, h1, h2, h⟩ => by
    rw [e, List.map_cons, List.map_cons]
    simp only [rep_key h1]
    by_cases hq : q = k
    · rw [if_pos (by rw [hq]), if_pos hq]
      exact ⟨q, v, _, rfl, h1, hv, RepK.map hv h⟩
    · rw [if_neg (fun w => hq (Option.some.inj w)), if_neg hq]
      exact ⟨q, v0, _, rfl, h1, h2, RepK.map hv h⟩
theorem RepK.snoc {T : Tx} {Z : Hp} {k : Key} {kd d : D} {v : V} (hk : Rep T Z kd (kV k)) (hv : Rep T Z d v) : ∀ {ds : List (D × D)} {es : List (Key × V)}, RepK T Z ds es → RepK T Z (ds ++ [(kd, d)]) (es ++ [(k, v)])
  | [], _, h => by rw [show _ = [] from h]; exact ⟨k, v, [], rfl, hk, hv, rfl⟩
  | (kd, d0) :: ds, _, ⟨q, v0, r, e, h1, h2, h⟩ => by rw [e]; exact ⟨q, v0, _, rfl, h1, h2, RepK.snoc hk hv h⟩
theorem RepK.put {T : Tx} {Z : Hp} {k : Key} {d : D} {v : V} {ds : List (D × D)} {es : List (Key × V)} (h : RepK T Z ds es) (hv : Rep T Z d v) : RepK T Z (putKD ds k d) (putK es k v) := by
  unfold putKD putK
  rw [h.any (k := k)]
  split
  · exact h.map hv
  · exact h.snoc (rep_dK k) hv
theorem RepK.get {T : Tx} {Z : Hp} {k : Key} : ∀ {ds : List (D × D)} {es : List (Key × V)}, RepK T Z ds es → (∀ d, getKD ds k = some d → ∃ v, valV es k = some v ∧ Rep T Z d v) ∧ (getKD ds k = none → valV es k = none)
  | [], _, h => by rw [show _ = [] from h]; exact ⟨fun d e => (by cases e), fun _ => rfl⟩
  | (kd, d0) :: ds, _, ⟨q, v0, r, e, h1, h2, h⟩ => by
    subst e
    have ih := RepK.get (k := k) h
    by_cases hq : q = k
    · have e1 : getKD ((kd, d0) :: ds) k = some d0 := by unfold getKD; rw [List.find?_cons]; simp [rep_key h1, hq]
      rw [e1, valV_pos hq]
      exact ⟨fun d e => (by cases e; exact ⟨v0, rfl, h2⟩), fun e => nomatch e⟩
    · have e1 : getKD ((kd, d0) :: ds) k = getKD ds k := by unfold getKD; rw [List.find?_cons]; simp [rep_key h1, hq]
      rw [e1, valV_neg hq]
      exact ih
/-! ### comprehensions of dicts -/
def dcTurn (cond : Mn Bool) (kc elt : Mn Rv) (ρ : En) : Option (Option (Key × D) × En) := match cond ρ with
  | .ok false ρ2 => some (none, ρ2)
  | .ok true ρ2 => (match cV kc ρ2 with
    | .ok k ρ3 => (match cV elt ρ3 with
      | .ok y ρ4 => (keyD k).bind fun q => some (some (q, y), ρ4)
      | _ => none)
    | _ => none)
  | _ => none
def dcL (t : Tn) (cond : Mn Bool) (kc elt : Mn Rv) (vs : List Nat) : List D → List (D × D) → En → Option (List (D × D) × En)
  | [], acc, ρ => some (acc, ρ)
  | d :: ds, acc, ρ => (setTn t d ρ).bind fun ρ1 => (dcTurn cond kc elt ρ1).bind fun q => match q.1 with
    | none => dcL t cond kc elt vs ds acc (wipeE q.2 vs)
    | some y => if acc.length < sizeLine then dcL t cond kc elt vs ds (putKD acc y.1 y.2) (wipeE q.2 vs) else none
def cDc (it : Mn (List D)) (t : Tn) (cond : Mn Bool) (kc elt : Mn Rv) (vs : List Nat) : Mn Rv := bnd it fun ds ρ =>
  if okOwn ρ vs && t.ix.all (fun i => vs.contains i) then (match dcL t cond kc elt vs ds [] (wipeE ρ vs) with
    | some q => .ok (.own (.dic q.1)) (restE ρ q.2 vs)
    | none => .stuck) else .stuck
section
variable {X : Cx} {e o : Expr} {c co ck : Mn Rv} {ta : Mn Bool} {pos : Pos} {i : Nat} {x : Str}
/-- what holds between two turns: D the new list -/
structure DcInv (T : Tx) (ρ0 : En) (σ : L2.St) (vs : List Nat) (H1 Z1 : Hp) (Dp : Addr) (acc : List (D × D)) (ρ : En) (H Z : Hp) : Prop where
  S : SOk T ρ (L2.wipe σ vs) H Z
  new : H1 Dp = none
  vals : ∃ ws, H Dp = some (.dK ws) ∧ RepK T Z acc ws
  zD : Z Dp = none
  same : Le H1 H
  le : Le Z1 Z
  grow : ∀ a o, Z a = some o → Z1 a = some o ∨ H1 a = none ∨ OwnA ρ0 σ a
  own : ∀ a, OwnA ρ (L2.wipe σ vs) a → OwnA ρ0 σ a
  bor : ∀ (j : Nat) (d : D), ρ[j]? = some (.bor d) → ρ0[j]? = some (.bor d)
  obj : ∀ (j : Nat) (d : D), ρ[j]? = some (.own d) → isObj d = true → ∃ d0, ρ0[j]? = some (.own d0) ∧ isObj d0 = true
  len : ρ.length = ρ0.length
theorem DcInv.notOwn {T : Tx} {ρ0 ρ : En} {σ : L2.St} {vs : List Nat} {H1 Z1 H Z : Hp} {Dp : Addr} {acc : List (D × D)} (L : DcInv T ρ0 σ vs H1 Z1 Dp acc ρ H Z) (S0 : SOk T ρ0 σ H1 Z1) : ¬ OwnA ρ (L2.wipe σ vs) Dp := fun q => S0.notOwn L.new (L.own _ q)
theorem DcInv.notBor {T : Tx} {ρ0 ρ : En} {σ : L2.St} {vs : List Nat} {H1 Z1 H Z : Hp} {Dp : Addr} {acc : List (D × D)} (L : DcInv T ρ0 σ vs H1 Z1 Dp acc ρ H Z) (S0 : SOk T ρ0 σ H1 Z1) : ¬ BorA ρ (L2.wipe σ vs) Dp := fun ⟨j, d, h1, h2⟩ => S0.notBor L.new ⟨j, d, L.bor j d h1, by
  rw [wipe_get] at h2
  split at h2
  · cases h2
  · exact h2⟩
theorem dc_ok {W : WX} {t : Tn} {vs : List Nat} {kc elt : Mn Rv} {ds : List D} {J : It} {ρ : En} {σ : L2.St} {H Z : Hp} {Q : VK} (S : SOk (tx X) ρ σ H Z) {G : Addr → Prop} (hs : Src (tx X) G ρ σ H Z J ds)
    (p : Po kE (tx X) ρ σ H Z ((if okOwn ρ vs && t.ix.all (fun i => vs.contains i) then (match dcL t ta kc elt vs ds [] (wipeE ρ vs) with
      | some q => .ok (.own (.dic q.1)) (restE ρ q.2 vs)
      | none => .stuck) else .stuck : Out Rv)) W Q) (Dp : Addr) (hD : H Dp = none) :
    ∃ Wi : Nat → Nat → Hp → Prop, (∃ m, Wi 0 m (upd H Dp (.dK []))) ∧ ∀ i m H, Wi i m H → (J.stop i H ∧ Q (.ref Dp) H) ∨ (J.go i H ∧ ∃ Nx : Hp → Prop, (∀ H', Nx H' → ∃ m', m' < m ∧ Wi (i + 1) m' H') ∧
      ∀ x H', J.yld i H x H' → gTn X.K t x (L2.wipe σ vs) H' fun σ2 H2 => L2.wipe σ2 vs = L2.wipe σ vs ∧ tK kB (tx X) WF ta σ2 H2 fun b H3 =>
        if b = true then tK kD (tx X) WF (cV kc) σ2 H3 fun y H4 => tK kD (tx X) WF (cV elt) σ2 H4 fun z H5 => ∃ kvs k, y = kV k ∧ H5 Dp = some (.dK kvs) ∧ kvs.length < sizeLine ∧ Nx (upd H5 Dp (.dK (putK kvs k z))) else Nx H3) := by
  by_cases hok : (okOwn ρ vs && t.ix.all (fun i => vs.contains i)) = true
  · rw [if_pos hok] at p
    rw [Bool.and_eq_true] at hok
    obtain ⟨ho, hix⟩ := hok
    have hix : ∀ j ∈ t.ix, j ∈ vs := fun j hj => by simpa using List.all_eq_true.mp hix j hj
    cases hq : dcL t ta kc elt vs ds [] (wipeE ρ vs) with
    | none => rw [hq] at p; exact p.elim
    | some fin =>
      rw [hq] at p
      refine ⟨fun i m H' => m = ds.length - i ∧ i ≤ ds.length ∧ ∃ acc ρ' Z', DcInv (tx X) ρ σ vs H Z Dp acc ρ' H' Z' ∧ dcL t ta kc elt vs (ds.drop i) acc ρ' = some fin, ⟨_, rfl, Nat.zero_le _, [], wipeE ρ vs, Z, ?_, by rw [List.drop_zero]; exact hq⟩, ?_⟩
      · exact ⟨(S.wipe vs).new hD, hD, ⟨[], upd_same, rfl⟩, S.zfree hD, upd_le hD, .refl _, fun a o e => .inl e, fun a h => wipe_ownA h, fun j d h => by
          rw [wipeE_get] at h
          split at h
          · cases h
          · exact h, fun j d h ob => by
          rw [wipeE_get] at h
          split at h
          · cases h
          · exact ⟨d, h, ob⟩, wipeE_len ρ vs⟩
      · rintro i m H' ⟨rfl, hi, acc, ρ', Z', L, hl⟩
        -- the source stands
        obtain ⟨P, hP, src⟩ := id hs
        have hsrc := src H' Z' (fun a ha => by
          obtain ⟨⟨o, ho⟩, _⟩ := hP a ha
          rw [L.same a o ho, ho]) L.le L.S.sub
        obtain ⟨hstop, hgo⟩ := hsrc
        rcases Nat.lt_or_ge i ds.length with hlt | hge
        · have hd : ds[i]? = some ds[i] := List.getElem?_eq_getElem hlt
          obtain ⟨g, y⟩ := hgo i _ hd
          refine .inr ⟨g, fun H2 => ds.length - (i + 1) = ds.length - (i + 1) ∧ i + 1 ≤ ds.length ∧ ∃ acc ρ' Z', DcInv (tx X) ρ σ vs H Z Dp acc ρ' H2 Z' ∧ dcL t ta kc elt vs (ds.drop (i + 1)) acc ρ' = some fin, fun H2 h => ⟨_, by omega, h⟩, fun x H2 yx => ?_⟩
          obtain ⟨l1, Z2, l2, l3, l4, r⟩ := y x H2 yx
          have S2 := L.S.growN l1 l2 l3 l4
          have noD := L.notOwn S
          have nbD := L.notBor S
          obtain ⟨ws, hws, rws⟩ := L.vals
          rw [drop_cons hd] at hl
          unfold dcL at hl
          cases ht : setTn t ds[i] ρ' with
          | none => rw [ht] at hl; cases hl
          | some ρ3 =>
            rw [ht] at hl
            refine setTn_ok ht S2 r fun σ3 S3 E3 b3 o3 => ?_
            have ew : L2.wipe σ3 vs = L2.wipe σ vs := by
              rw [wipe_eq b3.1 fun j hj => b3.2 j fun w => hj (hix j w), wipe_wipe]
            have hl' : ((dcTurn ta kc elt ρ3).bind fun q => match q.1 with
              | none => dcL t ta kc elt vs (ds.drop (i + 1)) acc (wipeE q.2 vs)
              | some y => if acc.length < sizeLine then dcL t ta kc elt vs (ds.drop (i + 1)) (putKD acc y.1 y.2) (wipeE q.2 vs) else none) = some fin := hl
            have E03 : Step ρ' (L2.wipe σ vs) H' Z' ρ3 σ3 H2 Z2 := (step_grow l1 l2 l4).trans E3
            -- what a turn's end asks, the list not yet longer
            have ends : ∀ (ρ4 : En) (H4 Z4 : Hp), SOk (tx X) ρ4 σ3 H4 Z4 → EStep ρ3 σ3 H2 Z2 ρ4 H4 Z4 → DcInv (tx X) ρ σ vs H Z Dp acc (wipeE ρ4 vs) H4 Z4 := fun ρ4 H4 Z4 S4 E4 => by
              have S5 := S4.wipe vs
              rw [ew] at S5
              have E04 : Step ρ' (L2.wipe σ vs) H' Z' ρ4 σ3 H4 Z4 := E03.trans E4.step
              have le4 : Le H' H4 := l1.trans E4.same
              refine ⟨S5, L.new, ⟨ws, le4 _ _ hws, rws.mono E04.le⟩, ?_, L.same.trans le4, L.le.trans E04.le, fun a o e => ?_, fun a q => ?_, fun j d q => ?_, fun j d q ob => ?_, ?_⟩
              · cases w : Z4 Dp with
                | none => rfl
                | some o =>
                  rcases E04.grow Dp o w with v | v | v
                  · rw [L.zD] at v; cases v
                  · rw [hws] at v; cases v
                  · exact (noD v).elim
              · rcases E04.grow a o e with v | v | v
                · exact L.grow a o v
                · refine .inr (.inl ?_)
                  cases hh : H a with
                  | none => rfl
                  | some o' => rw [L.same a o' hh] at v; cases v
                · exact .inr (.inr (L.own a v))
              · have q' : OwnA (wipeE ρ4 vs) (L2.wipe σ3 vs) a := by rw [ew]; exact q
                exact L.own a (o3 a (E4.ownE a (wipe_ownA q')))
              · rw [wipeE_get] at q
                split at q
                · cases q
                · exact L.bor j d (E04.bor j d q).1
              · rw [wipeE_get] at q
                split at q
                · cases q
                · obtain ⟨⟨d0, g1, g2⟩, _⟩ := E04.obj j d q ob
                  exact L.obj j d0 g1 g2
              · rw [wipeE_len, E4.len]
                have h1 := S3.len
                rw [b3.1, L2.wipe_length] at h1
                rw [h1, S.len]
            unfold dcTurn at hl'
            refine ⟨ew, ρ3, Z2, S3, ?_⟩
            cases hc : ta ρ3 with
            | stuck => rw [hc] at hl'; cases hl'
            | exc x ρ4 => rw [hc] at hl'; cases hl'
            | ok b ρ4 =>
              rw [hc] at hl'
              intro b' H4 Z4 S4 E4 eb
              obtain rfl : b' = b := eb
              cases b' with
              | false => exact ⟨rfl, hlt, acc, wipeE ρ4 vs, Z4, ends ρ4 H4 Z4 S4 E4, hl'⟩
              | true =>
                simp only at hl'
                refine ⟨ρ4, Z4, S4, ?_⟩
                cases hk : cV kc ρ4 with
                | stuck => rw [hk] at hl'; cases hl'
                | exc x ρ5 => rw [hk] at hl'; cases hl'
                | ok kd ρ5 =>
                  rw [hk] at hl'
                  simp only at hl'
                  intro vk H5 Z5 S5 E5 rk
                  refine ⟨ρ5, Z5, S5, ?_⟩
                  cases he : cV elt ρ5 with
                  | stuck => rw [he] at hl'; cases hl'
                  | exc x ρ6 => rw [he] at hl'; cases hl'
                  | ok y ρ6 =>
                    rw [he] at hl'
                    simp only at hl'
                    cases hq2 : keyD kd with
                    | none => rw [hq2] at hl'; cases hl'
                    | some k =>
                      rw [hq2] at hl'
                      intro v H6 Z6 S6 E6 ry
                      have L5 := ends ρ6 H6 Z6 S6 ((E4.trans E5).trans E6)
                      obtain ⟨ws5, hws5, rws5⟩ := L5.vals
                      have hl2 : (if acc.length < sizeLine then dcL t ta kc elt vs (ds.drop (i + 1)) (putKD acc k y) (wipeE ρ6 vs) else none) = some fin := hl'
                      by_cases hz : acc.length < sizeLine
                      · rw [if_pos hz] at hl2
                        refine ⟨ws5, k, key_rep hq2 rk, hws5, by rw [← rws5.len]; exact hz, rfl, hlt, putKD acc k y, wipeE ρ6 vs, Z6, ?_, hl2⟩
                        exact ⟨L5.S.other L5.zD (L5.notOwn S) (L5.notBor S), L5.new, ⟨_, upd_same, rws5.put ry⟩, L5.zD, fun a o e => by
                          have ha : a ≠ Dp := fun w => by rw [w, hD] at e; cases e
                          rw [upd_ne ha]; exact L5.same a o e, L5.le, L5.grow, L5.own, L5.bor, L5.obj, L5.len⟩
                      · rw [if_neg hz] at hl2; cases hl2
        · have e : i = ds.length := by omega
          subst e
          rw [List.drop_length] at hl
          unfold dcL at hl
          cases hl
          refine .inl ⟨hstop, ?_⟩
          obtain ⟨ws, hws, rws⟩ := L.vals
          have gl : ρ'.length = ρ.length := L.len
          have hown : ∀ a, OwnA (restE ρ ρ' vs) σ a → OwnA ρ' (L2.wipe σ vs) a := fun a ⟨j, d, h1, h2⟩ => by
            rw [restE_get ρ ρ' gl] at h1
            split at h1
            · rename_i hj; exact absurd h1 ((okOwn_ok ho hj).1 d)
            · rename_i hj; exact ⟨j, d, h1, by rw [wipe_get, if_neg (fun w => hj w.1)]; exact h2⟩
          have hbor : ∀ a, BorA (restE ρ ρ' vs) σ a → BorA ρ' (L2.wipe σ vs) a := fun a ⟨j, d, h1, h2⟩ => by
            rw [restE_get ρ ρ' gl] at h1
            split at h1
            · rename_i hj; exact absurd h1 ((okOwn_ok ho hj).2 d)
            · rename_i hj; exact ⟨j, d, h1, by rw [wipe_get, if_neg (fun w => hj w.1)]; exact h2⟩
          have Sr : SOk (tx X) (restE ρ ρ' vs) σ H' Z' := by
            refine ⟨by rw [restE_len, gl]; exact S.len, L.S.sub, fun j s h => ?_, fun j k d d' a h1 h2 h3 h4 => ?_, fun a h1 h2 => L.S.sep a (hown a h1) (hbor a h2)⟩
            · rw [restE_get ρ ρ' gl] at h
              split at h
              · rename_i hj
                have z := S.slot j s h
                cases s with
                | emp => trivial
                | exn _ => exact XSl.mono z L.le
                | val d => obtain ⟨v, e, r⟩ := z; exact ⟨v, e, r.mono L.le⟩
                | own d => exact absurd h ((okOwn_ok ho hj).1 d)
                | bor d => exact absurd h ((okOwn_ok ho hj).2 d)
              · rename_i hj
                have z := L.S.slot j s h
                rw [wipe_get, if_neg (fun w => hj w.1)] at z
                exact z
            · rw [restE_get ρ ρ' gl] at h1 h2
              split at h1
              · rename_i hj; exact absurd h1 ((okOwn_ok ho hj).1 d)
              · rename_i hj
                split at h2
                · rename_i hk; exact absurd h2 ((okOwn_ok ho hk).1 d')
                · rename_i hk
                  exact L.S.inj j k d d' a h1 h2 (by rw [wipe_get, if_neg (fun w => hj w.1)]; exact h3) (by rw [wipe_get, if_neg (fun w => hk w.1)]; exact h4)
          refine p (.ref Dp) H' Z' Sr ⟨⟨fun a o e _ => L.same a o e, L.le, L.grow, fun a h => .inl (L.own a (hown a h)), fun a ⟨o, e⟩ => ⟨o, L.same a o e⟩, fun j d h => ⟨?_, rfl⟩, fun j d h ob => ?_⟩, L.same, by rw [restE_len, gl], fun a h => L.own a (hown a h)⟩
            ⟨Dp, rfl, ⟨ws, hws, rws⟩, L.zD, .inl hD, fun h => L.notOwn S (hown _ h), fun h => L.notBor S (hbor _ h), rfl⟩
          · rw [restE_get ρ ρ' gl] at h
            split at h
            · rename_i hj; exact absurd h ((okOwn_ok ho hj).2 d)
            · exact L.bor j d h
          · rw [restE_get ρ ρ' gl] at h
            split at h
            · rename_i hj; exact absurd h ((okOwn_ok ho hj).1 d)
            · exact ⟨L.obj j d h ob, rfl⟩
  · rw [if_neg hok] at p; exact p.elim
theorem dc_read {W : WX} {wi : TI} {t : Tn} {vs : List Nat} {kc elt : Mn Rv} {ci : Mn (List D)} (hi : ∀ σ H R, tK (kI (tx X) σ) (tx X) W ci σ H R → wi σ H R) : ∀ σ H Q, tK kE (tx X) W (cDc ci t ta kc elt vs) σ H Q →
    L2.tDc wi (gTn X.K t) (tK kB (tx X) WF ta) (tK kD (tx X) WF (cV kc)) (tK kD (tx X) WF (cV elt)) vs σ H Q := fun σ H Q ⟨ρ, Z, S, p⟩ => by
  refine hi σ H _ ⟨ρ, Z, S, p.bnd (k1 := kI (tx X) σ) fun ds J ρ1 H1 Z1 S1 E1 o1 p1 => ?_⟩
  intro Dp hD
  exact dc_ok S1 o1 p1 Dp hD
theorem ps_setDc {i : Nat} {y : Str} {py : Pos} {kx vx tg iter : Expr} {ifs : List Expr} {scope : Scope} {own : List (Str × Nat)} {pos spos : Pos} {wi : TI} {g : TG} {tt : TT} {tk tv : TE} (hc : X.calm = true) (hN : X.N.Nodup) (hy : X.N[i]? = some y) (hyl : X.env.scope.names.lookup y = some .local)
    (hsw : swapsWith (.DictComp kx vx [⟨tg, iter, ifs, 0⟩] scope pos) (some (.Name y py)) spos.line X.env = pure true) (hi : PI X tg iter wi) (ok : L2.BlkOk X.N X.env.scope scope own)
    (hg : ∀ (s : Shared) (H : Hp) (C : Addr) (cl : List (Str × Addr)) (fp : List Addr), PG (X.blk s H scope (compEnvC scope cl C X.env) fp) tg g) (ht : ∀ (s : Shared) (H : Hp) (C : Addr) (cl : List (Str × Addr)) (fp : List Addr), PTs (X.blk s H scope (compEnvC scope cl C X.env) fp) ifs tt)
    (hk : ∀ (s : Shared) (H : Hp) (C : Addr) (cl : List (Str × Addr)) (fp : List Addr), PE (X.blk s H scope (compEnvC scope cl C X.env) fp) kx tk)
    (he : ∀ (s : Shared) (H : Hp) (C : Addr) (cl : List (Str × Addr)) (fp : List Addr), PE (X.blk s H scope (compEnvC scope cl C X.env) fp) vx tv) (hs : ∀ x, foldedSetIterable iter X.env x = pure x) :
    PS X (.Assign [.Name y py] (.DictComp kx vx [⟨tg, iter, ifs, 0⟩] scope pos) spos) (tAsg (tDc wi g tt tk tv (own.map (·.2))) (gName i)) := by
  refine ⟨fun pins s σ H Dn I h => ?_⟩
  rw [exec_Assign_Name_used _ _ _ _ hsw]
  have h : tDc wi g tt tk tv (own.map (·.2)) σ H (fun x H1 => gName i x σ H1 Dn.nx) := h
  refine wpAny_bind (wpAny_standAt (wpAny_bind ?_))
  show wpAny _ X.A (do let _ ← comprehension (.DictComp kx vx [⟨tg, iter, ifs, 0⟩] scope pos) scope X.env (firstIterPos [⟨tg, iter, ifs, 0⟩] pos) newDict false (eval iter X.env) (some (assign (.Name y py) X.env))) _ _ s
  refine wpAny_bind (thn (dc_core (Qf := fun _ s' => SP X pins Dn .next s') hc hN I hi ok hg ht hk he hs h fun L C s' m H' I' q hn f => ?_) fun _ s' hq => wpAny_pure (wpAny_pure hq))
  obtain ⟨f0, f1, f2, f3, f4, f5⟩ := f
  show wpAny _ _ (assign (.Name y py) X.env (.ref L)) _ _ _
  refine wpAny_assign_Name (store_ok2 (v := V.ref L) I' hN hy (.inl hyl) rfl (fun s2 I2 ⟨b, sb, hb⟩ => ?_) (.inr hyl))
  have hCb : C ≠ b := hb.elim (fun z => z ▸ f1) fun z e => f4 y b z e.symm
  exact ⟨m, hn.sameBut sb hCb, fun h3 sb3 => ⟨_, H', I2.turned (t' := s2.toks) (fun b o hb e => (sb3.2 b hb).trans e) f0 f1 f3 f4 f5, q⟩⟩
theorem blkP_pts {ifs : List Expr} {s : Shared} {H : Hp} {scope : Scope} {cenv : Env} {fp : List Addr} (hc : X.calm = true) (h : SC (X.blk s H scope cenv fp) ifs ta) : PTs (X.blk s H scope cenv fp) ifs (tK kB (tx X) WF ta) := blk_pts hc h
theorem se_dc {kx vx tg iter : Expr} {ifs : List Expr} {scope : Scope} {own : List (Str × Nat)} {ci : Mn (List D)} {t : Tn} {kc ce : Mn Rv} (hc : X.calm = true) (hN : X.N.Nodup) (hi : SI X tg iter ci) (ok : L2.BlkOk X.N X.env.scope scope own)
    (hg : ∀ (s : Shared) (H : Hp) (C : Addr) (cl : List (Str × Addr)) (fp : List Addr), SN (X.blk s H scope (compEnvC scope cl C X.env) fp) tg t) (ht : ∀ (s : Shared) (H : Hp) (C : Addr) (cl : List (Str × Addr)) (fp : List Addr), SC (X.blk s H scope (compEnvC scope cl C X.env) fp) ifs ta)
    (hk : ∀ (s : Shared) (H : Hp) (C : Addr) (cl : List (Str × Addr)) (fp : List Addr), SE (X.blk s H scope (compEnvC scope cl C X.env) fp) kx kc)
    (he : ∀ (s : Shared) (H : Hp) (C : Addr) (cl : List (Str × Addr)) (fp : List Addr), SE (X.blk s H scope (compEnvC scope cl C X.env) fp) vx ce) (hs : ∀ x, foldedSetIterable iter X.env x = pure x := by intro _; rfl) :
    SE X (.DictComp kx vx [⟨tg, iter, ifs, 0⟩] scope pos) (cDc ci t ta kc ce (own.map (·.2))) :=
  ⟨fun W tk => peI (L2.pe_dc hc hN (hi.run W tk) ok (fun s H C cl fp => (hg s H C cl fp).run) (fun s H C cl fp => blk_pts hc (ht s H C cl fp)) (fun s H C cl fp => blk_pe hc (hk s H C cl fp)) (fun s H C cl fp => blk_pe hc (he s H C cl fp)) hs) (dc_read fun _ _ _ h => h)⟩
theorem ss_setDc {y : Str} {py : Pos} {kx vx tg iter : Expr} {ifs : List Expr} {scope : Scope} {own : List (Str × Nat)} {spos : Pos} {ci : Mn (List D)} {t : Tn} {kc ce : Mn Rv} (hc : X.calm = true) (hN : X.N.Nodup) (hy : X.N[i]? = some y) (hyl : X.env.scope.names.lookup y = some .local)
    (hsw : swapsWith (.DictComp kx vx [⟨tg, iter, ifs, 0⟩] scope pos) (some (.Name y py)) spos.line X.env = pure true) (hi : SI X tg iter ci) (ok : L2.BlkOk X.N X.env.scope scope own)
    (hg : ∀ (s : Shared) (H : Hp) (C : Addr) (cl : List (Str × Addr)) (fp : List Addr), SN (X.blk s H scope (compEnvC scope cl C X.env) fp) tg t) (ht : ∀ (s : Shared) (H : Hp) (C : Addr) (cl : List (Str × Addr)) (fp : List Addr), SC (X.blk s H scope (compEnvC scope cl C X.env) fp) ifs ta)
    (hk : ∀ (s : Shared) (H : Hp) (C : Addr) (cl : List (Str × Addr)) (fp : List Addr), SE (X.blk s H scope (compEnvC scope cl C X.env) fp) kx kc)
    (he : ∀ (s : Shared) (H : Hp) (C : Addr) (cl : List (Str × Addr)) (fp : List Addr), SE (X.blk s H scope (compEnvC scope cl C X.env) fp) vx ce) (hs : ∀ x, foldedSetIterable iter X.env x = pure x := by intro _; rfl) :
    SS X (.Assign [.Name y py] (.DictComp kx vx [⟨tg, iter, ifs, 0⟩] scope pos) spos) (cSet i (cDc ci t ta kc ce (own.map (·.2)))) :=
  ⟨fun W tk => psI (ps_setDc hc hN hy hyl hsw (hi.run W tk) ok (fun s H C cl fp => (hg s H C cl fp).run) (fun s H C cl fp => blk_pts hc (ht s H C cl fp)) (fun s H C cl fp => blk_pe hc (hk s H C cl fp)) (fun s H C cl fp => blk_pe hc (he s H C cl fp)) hs) fun Dn σ H h => by
    have h2 := set_ok (X := X) (hN := hN) Dn σ H h
    exact dc_read (fun _ _ _ h => h) σ H _ h2⟩
/-! ### d[k] -/
def dgetD (d k : D) : Option Rv := match d with
  | .dic kvs => (keyD k).bind fun q => (getKD kvs q).map .val
  | _ => none
def dinD (k d : D) : Option Rv := match d with
  | .dic kvs => (keyD k).bind fun q => vB (getKD kvs q).isSome
  | _ => none
def dninD (k d : D) : Option Rv := match d with
  | .dic kvs => (keyD k).bind fun q => vB (!(getKD kvs q).isSome)
  | _ => none
theorem rd_dic {T : Tx} {H Z : Hp} {x : V} {kvs : List (D × D)} (s : Le Z H) (h : RdOk T H Z x (.dic kvs)) : ∃ a es, x = .ref a ∧ H a = some (.dK es) ∧ RepK T Z kvs es := by
  rcases h with ⟨a, e, es, q, r⟩ | ⟨a, e, es, q, r⟩
  · exact ⟨a, es, e, s _ _ q, r⟩
  · exact ⟨a, es, e, q, r⟩
theorem keyD_rd {T : Tx} {H Z : Hp} {x : V} {d : D} {q : Key} (e : keyD d = some q) (h : RdOk T H Z x d) : x = kV q := by
  cases d with
  | int i => cases e; exact rd_int h
  | str i => cases e; exact rd_str h
  | _ => cases e
theorem fits_dget : Fits2 X (fun x y H2 Q => ∃ a v, x = .ref a ∧ DGet H2 a y (some v) ∧ Q v H2) dgetD := by
  intro ρ σ H Z dx dy x y rv Q S h1 h2 e k
  unfold dgetD at e
  split at e
  · rename_i kvs
    cases hq : keyD dy with
    | none => rw [hq] at e; cases e
    | some q =>
      rw [hq] at e
      simp only [Option.bind_some] at e
      cases hg : getKD kvs q with
      | none => rw [hg] at e; cases e
      | some d =>
        rw [hg] at e; cases e
        obtain ⟨a, es, rfl, h3, r⟩ := rd_dic S.sub h1
        obtain ⟨v, h4, h5⟩ := (r.get (k := q)).1 d hg
        exact ⟨a, v, rfl, .inl ⟨es, q, .inl h3, keyD_rd hq h2, h4.symm⟩, k _ _ _ S (.refl _ _ _ _) h5⟩
  · cases e
theorem fits_din : Fits2 X (fun y x H2 Q => ∃ a o, x = .ref a ∧ DGet H2 a y o ∧ Q (.bl o.isSome) H2) dinD := by
  intro ρ σ H Z dx dy x y rv Q S h1 h2 e k
  unfold dinD at e
  split at e
  · rename_i kvs
    cases hq : keyD dx with
    | none => rw [hq] at e; cases e
    | some q =>
      rw [hq] at e; cases e
      obtain ⟨a, es, rfl, h3, r⟩ := rd_dic S.sub h2
      refine ⟨a, valV es q, rfl, .inl ⟨es, q, .inl h3, keyD_rd hq h1, rfl⟩, ?_⟩
      have e : (valV es q).isSome = (getKD kvs q).isSome := by
        cases hg : getKD kvs q with
        | none => rw [(r.get (k := q)).2 hg]; rfl
        | some d => obtain ⟨v, h4, _⟩ := (r.get (k := q)).1 d hg; rw [h4]; rfl
      rw [e]
      exact k _ _ _ S (.refl _ _ _ _) rfl
  · cases e
theorem fits_dnin : Fits2 X (fun y x H2 Q => ∃ a o, x = .ref a ∧ DGet H2 a y o ∧ Q (.bl (!o.isSome)) H2) dninD := by
  intro ρ σ H Z dx dy x y rv Q S h1 h2 e k
  unfold dninD at e
  split at e
  · rename_i kvs
    cases hq : keyD dx with
    | none => rw [hq] at e; cases e
    | some q =>
      rw [hq] at e; cases e
      obtain ⟨a, es, rfl, h3, r⟩ := rd_dic S.sub h2
      refine ⟨a, valV es q, rfl, .inl ⟨es, q, .inl h3, keyD_rd hq h1, rfl⟩, ?_⟩
      have e : (valV es q).isSome = (getKD kvs q).isSome := by
        cases hg : getKD kvs q with
        | none => rw [(r.get (k := q)).2 hg]; rfl
        | some d => obtain ⟨v, h4, _⟩ := (r.get (k := q)).1 d hg; rw [h4]; rfl
      rw [e]
      exact k _ _ _ S (.refl _ _ _ _) rfl
  · cases e
theorem se_dget {b : Expr} (hu : X.A.units + 65 < cLine) (ho : SE X o co) (hk : SE X b ck) (hs : NoSl b := by exact fun _ _ => rfl) : SE X (.Subscript o b pos) (cBin dgetD co ck) :=
  ⟨fun W tk => peI (pe_dget (by omega) (ho.run W tk) (hk.run W tk) hs) (bin_ok fits_dget)⟩
end
end CI
end
section
set_option maxRecDepth 100000
set_option maxHeartbeats 2000000
/-! CISq: zip and enumerate of lists, tuples and texts. -/
namespace CI
open PySem PySem.Spec L2 PyProof.Rows
/-- what is walked -/
inductive Sk where
  | tup (a : Addr) | lst (a : Addr) | txt (x : Str)
def chV (x : Str) : List V := x.cps.toList.map fun c => V.str ⟨#[c]⟩
def SqY (K : PySem.W.Frag) (H : Hp) : Sk → List V → Prop
  | .tup a, xs => SqT K H a xs
  | .lst a, xs => SqL K H a xs
  | .txt x, xs => xs = chV x
def Sk.v : Sk → V
  | .tup a => .ref a
  | .lst a => .ref a
  | .txt x => .str x
def Sk.fp (it : Addr) : Sk → List Addr
  | .tup a => [it, a]
  | .lst a => [it, a]
  | .txt _ => [it]
def Sk.apart (it : Addr) : Sk → Prop
  | .tup a => a ≠ it
  | .lst a => a ≠ it
  | .txt _ => True
def Sk.low (n : Nat) : Sk → Prop
  | .tup a => a < n
  | .lst a => a < n
  | .txt _ => True
def ItY (h : Heap) (k : Sk) (it : Addr) (i : Nat) : Prop := match k with
  | .tup a => h.IsTupleIter it a i
  | .lst a => h.IsListIter it a i
  | .txt x => ∃ t, h.IsStrIter it (strIterType x) x t i
theorem ItY.at {h h' : Heap} {k : Sk} {it : Addr} {i : Nat} (x : ItY h k it i) (q : ∀ o, h.get? it = some o → h'.get? it = some o) : ItY h' k it i := by
  cases k with
  | tup a => exact Heap.IsTupleIter.at x q
  | lst a => exact Heap.IsListIter.at x q
  | txt y => obtain ⟨t, o, e, c, d⟩ := x; exact ⟨t, o, q o e, c, d⟩
theorem ItY.obj {h : Heap} {k : Sk} {it : Addr} {i : Nat} (x : ItY h k it i) : ∃ o, h.get? it = some o ∧ ∀ v, o.data ≠ .cell v := by
  cases k with
  | tup a => obtain ⟨o, e, _, d⟩ := x; exact ⟨o, e, fun v q => by rw [d] at q; cases q⟩
  | lst a => obtain ⟨o, e, _, d⟩ := x; exact ⟨o, e, fun v q => by rw [d] at q; cases q⟩
  | txt y => obtain ⟨t, o, e, _, d⟩ := x; exact ⟨o, e, fun v q => by rw [d] at q; cases q⟩
theorem Draws.wide {prog : Program} {w : World} {A : Around} {it : Addr} {fp : List Addr} {n : Nat} {P P' : Nat → Value → Prop} {St : Nat → Heap → Prop} (D : Draws prog w A it fp n P St) (h : ∀ i v, P i v → P' i v) : Draws prog w A it fp n P' St where
  live := D.live
  frame := D.frame
  item := fun i s Q E hi st hQ => D.item i s Q E hi st fun x h' tk p => hQ x h' tk (h _ _ p)
  done := D.done
theorem chV_len (x : Str) : (chV x).length = x.cps.size := by unfold chV; rw [List.length_map, Array.length_toList]
theorem vals_get' : ∀ {xs : List V} {us : List Value} {i : Nat} {u : Value}, Vals xs us → us[i]? = some u → ∃ x, xs[i]? = some x ∧ RelV x u
  | [], [], i, u, _, h => by simp at h
  | x :: xs, v :: us, 0, u, .cons r _, h => by simp at h; subst h; exact ⟨x, by simp, r⟩
  | x :: xs, v :: us, i + 1, u, .cons _ t, h => by
    obtain ⟨y, h1, h2⟩ := vals_get' (i := i) t (by simpa using h)
    exact ⟨y, by simpa using h1, h2⟩
theorem drawsY {X : Cx} {A : Around} {pins : List (Addr × Obj)} {σ : L2.St} {H : Hp} {s : Shared} {k : Sk} {xs : List V} {it : Addr} {i : Nat} (hh : A.handled = none) (I : Inv X pins σ H s) (hq : SqY X.K H k xs) (hne : k.apart it) (st : ItY s.heap k it i) :
    ∃ (P : Nat → Value → Prop) (St : Nat → Heap → Prop), Draws X.prog X.w A it (k.fp it) xs.length P St ∧ St i s.heap ∧ (∀ j h, St j h → ItY h k it j) ∧ ∀ j v, P j v → ∃ y, xs[j]? = some y ∧ RelV y v := by
  cases k with
  | tup a =>
    obtain ⟨its, r, p, _⟩ := I.tuple hq
    refine ⟨fun j v => its.toArray[j]? = some v, fun j h => h.IsTupleIter it a j ∧ h.IsTuple a its.toArray, by have D := Draws.tuple (prog := X.prog) (w := X.w) (A := A) hh it a hne its.toArray; rw [List.size_toArray, ← r.length] at D; exact D, ⟨st, p⟩, fun j h q => q.1, fun j v q => ?_⟩
    have q : its[j]? = some v := by simpa using q
    exact vals_get' r q
  | lst a =>
    obtain ⟨its, r, p, _⟩ := I.list hq
    refine ⟨fun j v => its.toArray[j]? = some v, fun j h => h.IsListIter it a j ∧ h.IsList a its.toArray, by have D := Draws.list (prog := X.prog) (w := X.w) (A := A) hh it a hne its.toArray; rw [List.size_toArray, ← r.length] at D; exact D, ⟨st, p.isList⟩, fun j h q => q.1, fun j v q => ?_⟩
    have q : its[j]? = some v := by simpa using q
    exact vals_get' r q
  | txt x =>
    obtain ⟨t, st⟩ := st
    cases (show xs = chV x from hq)
    refine ⟨fun i v => ∃ c u, x.cps[i]? = some c ∧ v = .str ⟨#[c]⟩ u, fun i h => h.IsStrIter it (strIterType x) x t i, by rw [chV_len]; exact Draws.text (prog := X.prog) (w := X.w) (A := A) hh it x t, st, fun j h q => ⟨t, q⟩, fun j v ⟨c, u, q1, q2⟩ => ?_⟩
    subst q2
    refine ⟨.str ⟨#[c]⟩, ?_, u, rfl⟩
    unfold chV
    rw [List.getElem?_map, Array.getElem?_toList, q1] <;> rfl
theorem Inv.seqY_inj {X : Cx} {pins : List (Addr × Obj)} {σ : L2.St} {H : Hp} {s : Shared} {k : Sk} {xs ys : List V} (I : Inv X pins σ H s) (h : SqY X.K H k xs) (q : SqY X.K H k ys) : xs = ys := by
  cases k with
  | tup a => exact I.tuple_inj h q
  | lst a => exact I.list_inj h q
  | txt x => exact (show xs = chV x from h).trans (show ys = chV x from q).symm
theorem Inv.seqY_low {X : Cx} {pins : List (Addr × Obj)} {σ : L2.St} {H : Hp} {s : Shared} {k : Sk} {xs : List V} (I : Inv X pins σ H s) (h : SqY X.K H k xs) : k.low s.heap.objs.size := by
  cases k with
  | tup a => obtain ⟨its, r, p, _⟩ := I.tuple h; obtain ⟨o, e, _⟩ := p; exact Heap.lt_size e
  | lst a => obtain ⟨its, r, p, _⟩ := I.list h; obtain ⟨o, e, _⟩ := p.isList; exact Heap.lt_size e
  | txt x => trivial
theorem Sk.low_fp {k : Sk} {n it b : Addr} (h : k.low n) (hb : n ≤ b) (hn : b ≠ it) : b ∉ k.fp it := by
  cases k with
  | tup a => have : a < n := h; simp only [Sk.fp, List.mem_cons, List.not_mem_nil, or_false, not_or]; exact ⟨hn, fun e => Nat.lt_irrefl a (Nat.lt_of_lt_of_le this (e ▸ hb))⟩
  | lst a => have : a < n := h; simp only [Sk.fp, List.mem_cons, List.not_mem_nil, or_false, not_or]; exact ⟨hn, fun e => Nat.lt_irrefl a (Nat.lt_of_lt_of_le this (e ▸ hb))⟩
  | txt x => simp only [Sk.fp, List.mem_cons, List.not_mem_nil, or_false]; exact hn
theorem Sk.fp_mem {k : Sk} {it : Addr} : it ∈ k.fp it := by cases k <;> simp [Sk.fp]
theorem Sk.low_apart {k : Sk} {n it : Addr} (h : k.low n) (hb : n ≤ it) : k.apart it := by
  cases k with
  | tup a => have : a < n := h; exact Nat.ne_of_lt (Nat.lt_of_lt_of_le this hb)
  | lst a => have : a < n := h; exact Nat.ne_of_lt (Nat.lt_of_lt_of_le this hb)
  | txt x => trivial
def bO (k : Sk) (u : Value) : Obj := match k with
  | .tup _ => { cls := .type "tuple_iterator", data := .fields #[u, .int 0 0] }
  | .lst _ => { cls := .type "list_iterator", data := .fields #[u, .int 0 0] }
  | .txt x => { cls := .type (strIterType x), data := .fields #[u, .int 0 0] }
theorem beginsY {X : Cx} {pins : List (Addr × Obj)} {σ : L2.St} {H : Hp} {s : Shared} {k : Sk} {xs : List V} {u : Value} (I : Inv X pins σ H s) (h : SqY X.K H k xs) (r : RelV k.v u) : ∃ Hs, Begins u (bO k u) Hs ∧ Hs s.heap ∧ ∀ (h : Heap) (it : Addr), h.get? it = some (bO k u) → ItY h k it 0 := by
  cases k with
  | tup a =>
    obtain rfl : u = .ref a := r
    obtain ⟨its, _, p, _⟩ := I.tuple h
    exact ⟨_, begins_tuple a its.toArray, p, fun h it e => ⟨_, e, rfl, rfl⟩⟩
  | lst a =>
    obtain rfl : u = .ref a := r
    obtain ⟨its, _, p, _⟩ := I.list h
    exact ⟨_, begins_list a its.toArray, p.isList, fun h it e => ⟨_, e, rfl, rfl⟩⟩
  | txt x =>
    obtain ⟨t, rfl⟩ := r
    exact ⟨_, begins_text x t, trivial, fun h it e => ⟨t, _, e, rfl, rfl⟩⟩
/-! ### zip -/
def ItzY (K : PySem.W.Frag) (k1 k2 : Sk) : It :=
  ⟨fun i H => ∃ (xs ys : List V) (x y : V), SqY K H k1 xs ∧ SqY K H k2 ys ∧ xs[i]? = some x ∧ ys[i]? = some y,
    fun i H v H' => ∃ T x y, v = .ref T ∧ H T = none ∧ H' = upd H T (.tup [x, y]) ∧ (∀ xs, SqY K H k1 xs → xs[i]? = some x) ∧ ∀ ys, SqY K H k2 ys → ys[i]? = some y,
    fun i H => ∃ xs ys : List V, SqY K H k1 xs ∧ SqY K H k2 ys ∧ i ≤ xs.length ∧ i ≤ ys.length ∧ (i = xs.length ∨ i = ys.length)⟩
theorem turn_zipY {P : Program} {w : World} {K : PySem.W.Frag} {elts : List Expr} {kk : Nat} {tpos : Pos} {k1 k2 : Sk} {z TI TO i1 i2 : Addr} (D : ZipSep2 z TI TO i1 i2 (k1.fp i1) (k2.fp i2)) (ap1 : k1.apart i1) (ap2 : k2.apart i2) :
    Turn P w K (.Tuple elts kk tpos) (ItzY K k1 k2) [z, TI, TO, i1, i2] z (fun i h => IsZip h z TI TO .none ∧ IsTupOf2 h TI (.ref i1) (.ref i2) ∧ (∃ x y, IsTupOf2 h TO x y) ∧ ItY h k1 i1 i ∧ ItY h k2 i2 i) where
  mem := by simp
  obj := fun i h st c hc => by
    obtain ⟨hz, hTI, ⟨x, y, hTO⟩, h1, h2⟩ := st
    have e' : c = z ∨ c = TI ∨ c = TO ∨ c = i1 ∨ c = i2 := by simpa using hc
    rcases e' with q | q | q | q | q
    · rw [q]; exact ⟨_, hz, fun v q => nomatch q⟩
    · rw [q]; exact ⟨_, hTI, fun v q => nomatch q⟩
    · rw [q]; exact ⟨_, hTO, fun v q => nomatch q⟩
    · rw [q]; exact h1.obj
    · rw [q]; exact h2.obj
  keep := fun i h h' st k => by
    obtain ⟨hz, hTI, ⟨x, y, hTO⟩, h1, h2⟩ := st
    exact ⟨k z (by simp) _ hz, k TI (by simp) _ hTI, ⟨x, y, k TO (by simp) _ hTO⟩, h1.at fun o q => k i1 (by simp) o q, h2.at fun o q => k i2 (by simp) o q⟩
  item := by
    intro X hP hw hK hc i pins s σ H E I hf st hg
    subst hP hw hK
    obtain ⟨hz, hTI, ⟨x0, y0, hTO⟩, h1, h2⟩ := st
    obtain ⟨xs, ys, x, y, hqx, hqy, hx, hy⟩ := hg
    have hzl : z < s.heap.objs.size := Heap.lt_size hz
    have hh : X.A.handled = none := I.ok.hd hc
    have hT : s.TypeIs (.ref z) "zip" := ⟨_, hz, rfl⟩
    obtain ⟨P1, St1, D1, q1, u1, m1⟩ := drawsY (A := X.A.in1) hh I hqx ap1 h1
    obtain ⟨P2, St2, D2, q2, u2, m2⟩ := drawsY (A := X.A.in1) hh I hqy ap2 h2
    have lt1 : i < xs.length := (List.getElem?_eq_some_iff.mp hx).1
    have lt2 : i < ys.length := (List.getElem?_eq_some_iff.mp hy).1
    have main : wpAny (model X.prog X.w) X.A (pyNext (.ref z)) (fun r s1 => ∃ u, r = some u ∧ wpAny (model X.prog X.w) X.A (letOwnedTupleGo (.Tuple elts kk tpos) (.ref z) u) (fun _ s2 => ∃ x H', Inv X pins σ H' s2 ∧ RelV x u ∧ (ItzY X.K k1 k2).yld i H x H' ∧
        (IsZip s2.heap z TI TO .none ∧ IsTupOf2 s2.heap TI (.ref i1) (.ref i2) ∧ (∃ x y, IsTupOf2 s2.heap TO x y) ∧ ItY s2.heap k1 i1 (i + 1) ∧ ItY s2.heap k2 i2 (i + 1)) ∧ ∀ b ∈ [z, TI, TO, i1, i2], H' b = none) E s1) E s := by
      unfold pyNext
      refine wpAny_bind (wpAny_attempt (wpAny_callSpecial?_slot (name := Str.ofString "__next__") hT F.slot_zip_next
        (wpAny_call_entry F.slot_zip_next hT F.entry_zip_next
          (zipD2_next_item D D1 D2 hz hTI hTO q1 q2 lt1 lt2
            fun v1 v2 h' tk g1 g2 z' TO' h1' h2' hT hsz hk => wpAny_pure ?_) (F.args_zip_next_1 _))))
      obtain ⟨y1, e1, ru⟩ := m1 i v1 g1
      obtain ⟨y2, e2, ru2⟩ := m2 i v2 g2
      rw [hx] at e1
      rw [hy] at e2
      cases e1
      cases e2
      refine ⟨_, rfl, wpAny_letOwnedTupleGo_zip (s := { s with heap := h', toks := tk }) z' fun h'' z'' sb => ?_⟩
      have hT2 : h''.get? s.heap.objs.size = some { cls := .type "tuple", data := .seq #[v1, v2] } := (sb.2 _ (Nat.ne_of_gt hzl)).trans hT
      have new : ObjOk X.prog X.w (upd H s.heap.objs.size (.tup [x, y])) h'' s.heap.objs.size (.tup [x, y]) :=
        ⟨by show 2 ≤ sizeLine; decide, [v1, v2], .cons ru (.cons ru2 .nil), ⟨_, hT2, rfl, _, rfl⟩⟩
      have I1 : Inv X pins σ (upd H s.heap.objs.size (.tup [x, y])) { s with heap := h'', toks := tk } :=
        I.turnedNew (t' := tk) (ch := [z, TI, TO, i1, i2]) (fun c o hb q => (sb.2 c (fun q' => hb (by simp [q']))).trans (hk c o (fun q' => hb (by simp [q'])) (fun q' => hb (by simp [q'])) (fun q' => hb (by simp [q'])) (fun q' => hb (by simp [q'])) q)) hf (Nat.le_refl _) new
      refine ⟨.ref s.heap.objs.size, _, I1, rfl, ⟨_, x, y, rfl, I.hok.fresh (Nat.le_refl _), rfl, fun l hl => by rw [Inv.seqY_inj I hl hqx]; exact hx, fun l hl => by rw [Inv.seqY_inj I hl hqy]; exact hy⟩, ⟨z'', ?_, ⟨v1, v2, ?_⟩, ?_, ?_⟩, fun c hcm => ?_⟩
      · exact (sb.2 _ D.TIz).trans (hk _ _ D.TIz D.TITO D.TIi1 D.TIi2 hTI)
      · exact (sb.2 _ D.TOz).trans TO'
      · exact (u1 _ _ h1').at fun o q => (sb.2 _ D.zi1.symm).trans q
      · exact (u2 _ _ h2').at fun o q => (sb.2 _ D.zi2.symm).trans q
      · have hlt : c < s.heap.objs.size := by
          have e' : c = z ∨ c = TI ∨ c = TO ∨ c = i1 ∨ c = i2 := by simpa using hcm
          rcases e' with q | q | q | q | q
          · rw [q]; exact hzl
          · rw [q]; exact Heap.lt_size hTI
          · rw [q]; exact Heap.lt_size hTO
          · rw [q]; obtain ⟨_, e1, _⟩ := h1.obj; exact Heap.lt_size e1
          · rw [q]; obtain ⟨_, e2, _⟩ := h2.obj; exact Heap.lt_size e2
        rw [upd_ne (Nat.ne_of_lt hlt)]
        exact (hf c hcm).1
    exact main
  done := by
    intro X hP hw hK hc i pins s σ H E I hf st hg
    subst hP hw hK
    obtain ⟨hz, hTI, ⟨x0, y0, hTO⟩, h1, h2⟩ := st
    obtain ⟨xs, ys, hqx, hqy, l1, l2, hend⟩ := hg
    have hh : X.A.handled = none := I.ok.hd hc
    have hT : s.TypeIs (.ref z) "zip" := ⟨_, hz, rfl⟩
    obtain ⟨P1, St1, D1, q1, u1, m1⟩ := drawsY (A := X.A.in1) hh I hqx ap1 h1
    obtain ⟨P2, St2, D2, q2, u2, m2⟩ := drawsY (A := X.A.in1) hh I hqy ap2 h2
    unfold pyNext
    refine wpAny_bind (wpAny_attempt (wpAny_callSpecial?_slot (name := Str.ofString "__next__") hT F.slot_zip_next
      (wpAny_call_entry F.slot_zip_next hT F.entry_zip_next
        (zipD2_next_end (i := i) D D1 D2 hz hTI hTO q1 q2 l1 l2 hend
          fun h' tk e hk he => ?_) (F.args_zip_next_1 _))))
    obtain ⟨o, ho, hc⟩ := he
    refine wpAny_bind (wpAny_isInstance (T := "StopIteration") (b := true) ⟨o, ho, hc⟩ isSubtype_stop ?_)
    exact wpAny_pure ⟨rfl, I.turnedL (t' := tk) (ch := [z, TI, TO, i1, i2]) (fun c o hb q =>
      hk c o (fun q' => hb (by simp [q'])) (fun q' => hb (by simp [q'])) (fun q' => hb (by simp [q'])) (fun q' => hb (by simp [q'])) q) hf⟩
  self := fun A i s Q E st h => wpAny_pyIter_zip st.1 h
def iZipY (K : PySem.W.Frag) (ta : TA) : TI := fun σ H R => ta σ H fun vs H1 => ∃ k1 k2 xs ys, vs = [Sk.v k1, Sk.v k2] ∧ SqY K H1 k1 xs ∧ SqY K H1 k2 ys ∧ R (ItzY K k1 k2) H1
theorem pi_zipY {X : Cx} {e e2 : Expr} {ta : TA} {p pos tpos : Pos} {elts : List Expr} {kk : Nat} (hg : Gl X "zip") (hm : X.mg "zip" = none) (ha : PA X [e, e2] ta)
    (hs : starEach [e, e2] X.env = (false, eval e X.env) :: starEach [e2] X.env := by rfl) (hpl : (backTo pos (starEach [e2] X.env)).any (·.1) = false := by rfl) :
    PI X (.Tuple elts kk tpos) (.Call (.Name "zip" p) [e, e2] [] pos) (iZipY X.K ta) := by
  refine ⟨fun pins s σ H R I h => ?_⟩
  refine Call_ (ld_blt I hg hm PyProof.Rows.boot_zip (PyProof.Rows.callWith_type1 (thn (ha.run pos pins s σ H _ I h) fun us s1 ⟨vs, H1, I1, r1, q1⟩ => ?_) hs hpl))
  obtain ⟨k1, k2, xs, ys, ex, hqx, hqy, q⟩ := q1
  subst ex
  cases r1 with
  | cons r rr =>
    cases rr with
    | cons r' rr =>
      cases rr
      have fresh5 : ∀ c, c ∈ [s1.heap.objs.size + 4, s1.heap.objs.size + 2, s1.heap.objs.size + 3, s1.heap.objs.size, s1.heap.objs.size + 1] → FpOk X pins H1 c := fun c hcm => by
        have hle : s1.heap.objs.size ≤ c := by
          have e' : c = s1.heap.objs.size + 4 ∨ c = s1.heap.objs.size + 2 ∨ c = s1.heap.objs.size + 3 ∨ c = s1.heap.objs.size ∨ c = s1.heap.objs.size + 1 := by simpa using hcm
          omega
        exact I1.fpOk hle (I1.hok.fresh hle)
      obtain ⟨S1, B1, g1, n1⟩ := beginsY I1 hqx r
      obtain ⟨S2, B2, g2, n2⟩ := beginsY I1 hqy r'
      have w1 := Inv.seqY_low I1 hqx
      have w2 := Inv.seqY_low I1 hqy
      have D : ZipSep2 (s1.heap.objs.size + 4) (s1.heap.objs.size + 2) (s1.heap.objs.size + 3) s1.heap.objs.size (s1.heap.objs.size + 1) (k1.fp s1.heap.objs.size) (k2.fp (s1.heap.objs.size + 1)) :=
        { TIz := by simp, TOz := by simp, TITO := by simp, TIi1 := by simp, mem1 := Sk.fp_mem, zf1 := Sk.low_fp w1 (by simp) (by simp), Tf1 := Sk.low_fp w1 (by simp) (by simp), TIi2 := by simp, mem2 := Sk.fp_mem,
          zf2 := Sk.low_fp w2 (by simp) (by simp), Tf2 := Sk.low_fp w2 (by simp) (by simp), sep1_2 := Sk.low_fp w2 (Nat.le_refl _) (by simp), sep2_1 := Sk.low_fp w1 (by simp) (by simp) }
      refine zip_begins2 B1 B2 g1 g2 fun h' hz hTI hTO e1 e2 hsz hk => wpAny_pyIter_zip hz ?_
      have I2 : Inv X pins σ H1 { s1 with heap := h' } := I1.kept (t' := s1.toks) hk
      exact ⟨s1.heap.objs.size + 4, [s1.heap.objs.size + 4, s1.heap.objs.size + 2, s1.heap.objs.size + 3, s1.heap.objs.size, s1.heap.objs.size + 1], _, _, H1, rfl, I2, turn_zipY D (Sk.low_apart w1 (Nat.le_refl _)) (Sk.low_apart w2 (Nat.le_succ _)), ⟨hz, hTI, ⟨_, _, hTO⟩, n1 _ _ e1, n2 _ _ e2⟩, fresh5, q⟩
/-! ### enumerate -/
set_option maxHeartbeats 1000000 in
theorem meets_enumN {v : Value} {o : Obj} {H : Heap → Prop} (B : Begins v o H) :
    Meets (Builtin.«enumerate.__new__» ⟨[.type "enumerate", v], []⟩) (fun _ R s => H s.heap ∧
      R (.ok (.ret (.ref (s.heap.push o).objs.size))) { s with heap := (s.heap.push o).push { cls := .type "enumerate", data := .fields #[.none, .bool false, .ref s.heap.objs.size, rawInt 0, .none, .none] } }) :=
  .of_wp fun prog w A R s h => by
    obtain ⟨hp, g, d, tk, os⟩ := s; obtain ⟨h1, h⟩ := h
    have hsub := sub_enumerate
    have q1 : ∀ {A' : Around} {E : Value → Shared → Prop} {Q : Value → Shared → Prop}, Q (.ref hp.objs.size) ⟨hp.push o, g, d, tk, os⟩ → wpAny (model prog w) A' (pyIter v) Q E ⟨hp, g, d, tk, os⟩ :=
      fun q => B.iter prog w _ _ ⟨hp, g, d, tk, os⟩ _ h1 q
    wp_walk using q1
    refine wpAny_stack_any fun st => wpAny_pure ?_
    split
    · rename_i c _ _ _ _ _
      cases (c == Value.type "enumerate")
      · wp_walk using q1
        exact ⟨_, rfl, h⟩
      · wp_walk using q1
        exact ⟨_, rfl, h⟩
    · wp_walk using q1
      exact ⟨_, rfl, h⟩
section
variable {prog : Program} {w : World} {A : Around} {E : Value → Shared → Prop} {s : Shared}
theorem enumN_begins {v : Value} {o : Obj} {H : Heap → Prop} {Q : Value → Shared → Prop} (B : Begins v o H) (h1 : H s.heap)
    (h : ∀ h', IsEnum h' (s.heap.objs.size + 1) s.heap.objs.size 0 .none → h'.get? s.heap.objs.size = some o → h'.objs.size = s.heap.objs.size + 2 →
      (∀ b o, s.heap.get? b = some o → h'.get? b = some o) → Q (.ref (s.heap.objs.size + 1)) { s with heap := h' }) :
    wpAny (model prog w) A (call (.type "enumerate") [v]) Q E s := by
  refine callType_new F.called_enumerate (by decide) (F.typeCall_enumerate_1 _) (F.newCall_enumerate_1 _) (fun obj => F.args_object_init_2 obj _) F.entry_enumerate_new
    (meets_enumN B) ⟨h1, ?_⟩
  have hz : (s.heap.push o).objs.size = s.heap.objs.size + 1 := Heap.size_push ..
  show _ ∧ _
  rw [hz]
  have he : IsEnum ((s.heap.push o).push { cls := .type "enumerate", data := .fields #[.none, .bool false, .ref s.heap.objs.size, rawInt 0, .none, .none] }) (s.heap.objs.size + 1) s.heap.objs.size 0 .none := by
    have := Heap.get?_push_size (s.heap.push o) (o := { cls := .type "enumerate", data := .fields #[.none, .bool false, .ref s.heap.objs.size, rawInt 0, .none, .none] }) rfl
    rw [hz] at this; exact this
  refine ⟨⟨_, he, rfl⟩, h _ he (Heap.get?_push_of_some _ (Heap.get?_push_size _ B.free)) (by rw [Heap.size_push, hz]) fun b o x => Heap.get?_push_of_some _ (Heap.get?_push_of_some _ x)⟩
end
def IteY (K : PySem.W.Frag) (k : Sk) : It :=
  ⟨fun i H => ∃ (xs : List V) (x : V), SqY K H k xs ∧ xs[i]? = some x, fun i H v H' => ∃ T x, v = .ref T ∧ H T = none ∧ H' = upd H T (.tup [.int (i : Nat), x]) ∧ ∀ xs, SqY K H k xs → xs[i]? = some x, fun i H => ∃ xs : List V, SqY K H k xs ∧ xs.length = i⟩
theorem turn_enumY {P : Program} {w : World} {K : PySem.W.Frag} {elts : List Expr} {kk : Nat} {tpos : Pos} {k : Sk} {e it : Addr} (hne : e ≠ it) (hef : e ∉ k.fp it) (ap : k.apart it) :
    Turn P w K (.Tuple elts kk tpos) (IteY K k) [e, it] e (fun i h => (∃ old, IsEnum h e it ((i : Nat) : Int) old) ∧ ItY h k it i) where
  mem := by simp
  obj := fun i h st b hb => by
    obtain ⟨⟨old, he⟩, hi⟩ := st
    have e' : b = e ∨ b = it := by simpa using hb
    rcases e' with z | z
    · rw [z]; exact ⟨_, he, fun v q => nomatch q⟩
    · rw [z]; exact hi.obj
  keep := fun i h h' st q => let ⟨⟨old, he⟩, hi⟩ := st; ⟨⟨old, q e (by simp) _ he⟩, hi.at fun o z => q it (by simp) o z⟩
  item := by
    intro X hP hw hK hc i pins s σ H E I hf st hg
    subst hP hw hK
    obtain ⟨⟨old, he⟩, hit⟩ := st
    obtain ⟨xs, x, hq, hx⟩ := hg
    have hh : X.A.handled = none := I.ok.hd hc
    obtain ⟨P1, St1, D1, q1, u1, m1⟩ := drawsY (A := X.A.in1) hh I hq ap hit
    have lt1 : i < xs.length := (List.getElem?_eq_some_iff.mp hx).1
    have hel : e < s.heap.objs.size := Heap.lt_size he
    have hil : it < s.heap.objs.size := by obtain ⟨_, q, _⟩ := hit.obj; exact Heap.lt_size q
    refine wpAny_pyNext_enum_itemD D1 he q1 lt1 hne hef fun v1 h' tk g1 ho hit' hT hsz hk => ?_
    obtain ⟨y1, e1, ru⟩ := m1 i v1 g1
    rw [hx] at e1
    cases e1
    refine ⟨_, rfl, wpAny_letOwnedTupleGo_enum (s := { s with heap := h', toks := tk + 1 }) ho fun h'' he' sb => ?_⟩
    have hT2 : h''.get? s.heap.objs.size = some { cls := .type "tuple", data := .seq #[.int i tk, v1] } := (sb.2 _ (Nat.ne_of_gt hel)).trans hT
    have new : ObjOk X.prog X.w (upd H s.heap.objs.size (.tup [.int (i : Nat), x])) h'' s.heap.objs.size (.tup [.int (i : Nat), x]) :=
      ⟨by show 2 ≤ sizeLine; decide, [.int i tk, v1], .cons ⟨_, rfl⟩ (.cons ru .nil), ⟨_, hT2, rfl, _, rfl⟩⟩
    have I1 : Inv X pins σ (upd H s.heap.objs.size (.tup [.int (i : Nat), x])) { s with heap := h'', toks := tk + 1 } :=
      I.turnedNew (ch := [e, it]) (fun b ob hb q => (sb.2 b (fun z => hb (by simp [z]))).trans (hk b ob (fun z => hb (by simp [z])) (fun z => hb (by simp [z])) q)) hf (Nat.le_refl _) new
    refine ⟨.ref s.heap.objs.size, _, I1, rfl, ⟨_, x, rfl, I.hok.fresh (Nat.le_refl _), rfl, fun ys hy => by rw [Inv.seqY_inj I hy hq]; exact hx⟩, ⟨⟨v1, ?_⟩, (u1 _ _ hit').at fun o q => (sb.2 it (Ne.symm hne)).trans q⟩, fun b hb => ?_⟩
    · have e1 : ((i + 1 : Nat) : Int) = (i : Int) + 1 := by omega
      rw [e1]; exact he'
    · have hb' : b < s.heap.objs.size := by
        have e' : b = e ∨ b = it := by simpa using hb
        rcases e' with z | z
        · rw [z]; exact hel
        · rw [z]; exact hil
      rw [upd_ne (Nat.ne_of_lt hb')]
      exact (hf b hb).1
  done := by
    intro X hP hw hK hc i pins s σ H E I hf st hg
    subst hP hw hK
    obtain ⟨⟨old, he⟩, hit⟩ := st
    obtain ⟨xs, hq, hx⟩ := hg
    have hh : X.A.handled = none := I.ok.hd hc
    obtain ⟨P1, St1, D1, q1, u1, m1⟩ := drawsY (A := X.A.in1) hh I hq ap hit
    subst hx
    obtain ⟨f0, f1, f2, f3, f4, f5⟩ := hf it (by simp)
    exact wpAny_pyNext_enum_endD D1 he q1 fun h' eb => ⟨rfl, I.turned (t' := s.toks) (fun b o hb q => eb b o hb q) f0 f1 f3 f4 f5⟩
  self := fun A i s Q E st h => let ⟨⟨_, he⟩, _⟩ := st; wpAny_pyIter_enum he h
def iEnumY (K : PySem.W.Frag) (ta : TA) : TI := fun σ H R => ta σ H fun vs H1 => ∃ k xs, vs = [Sk.v k] ∧ SqY K H1 k xs ∧ R (IteY K k) H1
theorem pi_enumY {X : Cx} {e : Expr} {ta : TA} {p pos tpos : Pos} {elts : List Expr} {kk : Nat} (hg : Gl X "enumerate") (hm : X.mg "enumerate" = none) (ha : PA X [e] ta) (hs : starEach [e] X.env = [(false, eval e X.env)] := by rfl) :
    PI X (.Tuple elts kk tpos) (.Call (.Name "enumerate" p) [e] [] pos) (iEnumY X.K ta) := by
  refine ⟨fun pins s σ H R I h => ?_⟩
  refine Call_ (ld_blt I hg hm boot_enumerate (PyProof.Rows.callWith_type1 (thn (ha.run pos pins s σ H _ I h) fun us s1 ⟨vs, H1, I1, r1, q1⟩ => ?_) hs rfl))
  obtain ⟨k, xs, ex, hq, q⟩ := q1
  subst ex
  cases r1 with
  | cons r rr =>
    cases rr
    obtain ⟨S1, B1, g1, n1⟩ := beginsY I1 hq r
    have w1 := Inv.seqY_low I1 hq
    refine enumN_begins B1 g1 fun h' he hit hsz hk => wpAny_pyIter_enum he ?_
    have I2 : Inv X pins σ H1 { s1 with heap := h' } := I1.kept (t' := s1.toks) hk
    refine ⟨s1.heap.objs.size + 1, [s1.heap.objs.size + 1, s1.heap.objs.size], _, _, H1, rfl, I2, turn_enumY (k := k) (e := s1.heap.objs.size + 1) (it := s1.heap.objs.size) (Nat.succ_ne_self _) (Sk.low_fp w1 (Nat.le_succ _) (Nat.succ_ne_self _)) (Sk.low_apart w1 (Nat.le_refl _)), ⟨⟨.none, he⟩, n1 _ _ hit⟩, fun b hb => ?_, q⟩
    have e' : b = s1.heap.objs.size + 1 ∨ b = s1.heap.objs.size := by simpa using hb
    have hle : s1.heap.objs.size ≤ b := by
      rcases e' with z | z
      · rw [z]; exact Nat.le_add_right _ _
      · rw [z]; exact Nat.le_refl _
    exact I1.fpOk hle (I1.hok.fresh hle)
/-! ### as sources of plain data -/
def seqY : D → Option (List D)
  | .tup ds => some ds
  | .lst ds => some ds
  | .str x => some (x.cps.toList.map fun c => .str ⟨#[c]⟩)
  | _ => none
def zipOY (x y : D) : Option (List D) := match seqY x, seqY y with
  | some xs, some ys => some (zipD xs ys)
  | _, _ => none
def enumOY (x : D) : Option (List D) := (seqY x).map (enumD 0)
def ciZipY (a b : Mn D) : Mn (List D) := bnd (cCons a (cCons b cNil)) fun ds => match ds with
  | [x, y] => ofO (zipOY x y)
  | _ => stk
def ciEnumY (a : Mn D) : Mn (List D) := bnd (cCons a cNil) fun ds => match ds with
  | [x] => ofO (enumOY x)
  | _ => stk
theorem reps_ch {T : Tx} {Z : Hp} (x : Str) : Reps T Z (x.cps.toList.map fun c => D.str ⟨#[c]⟩) (chV x) := by
  unfold chV
  generalize x.cps.toList = l
  induction l with
  | nil => rfl
  | cons c l ih => exact ⟨_, _, rfl, rfl, ih⟩
theorem qOk_seqY {T : Tx} {G : Addr → Prop} {ρ : En} {σ : L2.St} {H Z : Hp} {v : V} {d : D} {ds : List D} (S : SOk T ρ σ H Z) (h : QOk T G ρ σ H Z v d) (e : seqY d = some ds) : ∃ (k : Sk) (vs : List V) (P : List Addr), v = k.v ∧ Reps T Z ds vs ∧ (∀ b ∈ P, (∃ o, H b = some o) ∧ ¬ OwnA ρ σ b ∧ G b) ∧
    ∀ H1 Z1, (∀ b ∈ P, H1 b = H b) → Le Z Z1 → Le Z1 H1 → SqY T.K H1 k vs := by
  cases d with
  | tup xs =>
    cases e
    obtain ⟨a, vs, ev, q, r⟩ := h.1.elim id fun ⟨_, _, z⟩ => z.elim
    exact ⟨.tup a, vs, [], ev, r, fun b hb => by simp at hb, fun H1 Z1 _ h2 h3 => h3.sqT (h2.sqT q)⟩
  | lst xs =>
    cases e
    obtain ⟨a, vs, ev, q, r⟩ := rd_lst S.sub h.1
    refine ⟨.lst a, vs, [a], ev, r, fun b hb => ?_, fun H1 Z1 h1 h2 h3 => ?_⟩
    · obtain rfl : b = a := by simpa using hb
      exact ⟨q.elim (fun e => ⟨_, e⟩) fun ⟨_, e⟩ => ⟨_, e⟩, h.2 b _ rfl ev⟩
    · have e := h1 a (by simp)
      exact .inl (q.elim (fun q => .inl (e.trans q)) fun ⟨o, q⟩ => .inr ⟨o, e.trans q⟩)
  | str x =>
    cases e
    exact ⟨.txt x, chV x, [], rd_str h.1, reps_ch x, fun b hb => by simp at hb, fun _ _ _ _ _ => rfl⟩
  | _ => cases e
section
variable {X : Cx} {a b e : Expr} {es : List Expr} {c : Mn Rv} {ca cb : Mn D} {cs : Mn (List D)} {i : Nat} {x : Str} {p pos tpos : Pos}
theorem si_zipY {elts : List Expr} {kk : Nat} (hg : Gl X "zip") (hm : X.mg "zip" = none) (ha : SQ X a ca) (hb : SQ X b cb) (hs : starEach [a, b] X.env = (false, eval a X.env) :: starEach [b] X.env := by rfl) (hs2 : starEach [b] X.env = (false, eval b X.env) :: starEach [] X.env := by rfl) (hpl : (backTo pos (starEach [b] X.env)).any (·.1) = false := by rfl) :
    SI X (.Tuple elts kk tpos) (.Call (.Name "zip" p) [a, b] [] pos) (ciZipY ca cb) :=
  ⟨fun W tk => piI (pi_zipY hg hm ((sqs_cons ha (sqs_cons hb sqs_nil hs2) hs).run W tk) hs hpl) fun σ H R ⟨ρ, Z, S, p⟩ => ⟨ρ, Z, S, PoB.bnd (k1 := kQs) (Po.b p) (.refl ρ σ H Z) fun rs vs ρ1 H1 Z1 S1 E1 o1 p1 => by
    match rs, vs, o1, p1 with
    | [x, y], [v, w], o1, p1 =>
      obtain ⟨ds, e, p2⟩ := PoB.ofO p1
      unfold zipOY at e
      split at e
      · rename_i xs ys hx hy
        cases e
        obtain ⟨t1, vs1, P1, rfl, r1, k1, s1⟩ := qOk_seqY S1 o1.1 hx
        obtain ⟨t2, vs2, P2, rfl, r2, k2, s2⟩ := qOk_seqY S1 o1.2.1 hy
        refine ⟨t1, t2, vs1, vs2, rfl, s1 H1 Z1 (fun _ _ => rfl) (.refl _) S1.sub, s2 H1 Z1 (fun _ _ => rfl) (.refl _) S1.sub, p2 _ H1 Z1 S1 (.refl _ _ _ _) ⟨P1 ++ P2, fun b hb => ?_, fun H2 Z2 h1 h2 h3 => ?_⟩⟩
        · rcases List.mem_append.mp hb with q | q
          · exact k1 b q
          · exact k2 b q
        · have q1 := s1 H2 Z2 (fun b hb => h1 b (List.mem_append_left _ hb)) h2 h3
          have q2 := s2 H2 Z2 (fun b hb => h1 b (List.mem_append_right _ hb)) h2 h3
          have l1 := r1.length
          have l2 := r2.length
          refine ⟨⟨vs1, vs2, q1, q2, by rw [zipD_len]; omega, by rw [zipD_len]; omega, by rw [zipD_len]; omega⟩, fun i d hd => ?_⟩
          obtain ⟨d1, d2, g1, g2, rfl⟩ := zipD_get hd
          obtain ⟨v1, e1, rp1⟩ := r1.get g1
          obtain ⟨v2, e2, rp2⟩ := r2.get g2
          refine ⟨⟨vs1, vs2, v1, v2, q1, q2, e1, e2⟩, fun x H3 ⟨Tp, x1, x2, ex, hT, eH, hx1, hx2⟩ => ?_⟩
          subst ex eH
          have n1 := hx1 vs1 q1
          have n2 := hx2 vs2 q2
          rw [e1] at n1
          rw [e2] at n2
          cases n1
          cases n2
          have zT : Z2 Tp = none := by
            cases ez : Z2 Tp with
            | none => rfl
            | some o => rw [h3 _ _ ez] at hT; cases hT
          refine ⟨upd_le hT, upd Z2 Tp (.tup [v1, v2]), upd_le zT, fun b u e => ?_, fun b u e => ?_, Tp, [v1, v2], rfl, .of upd_same, v1, [v2], rfl, (rp1.mono h2).mono (upd_le zT), v2, [], rfl, (rp2.mono h2).mono (upd_le zT), rfl⟩
          · by_cases hb : b = Tp
            · subst hb; rw [upd_same] at e ⊢; exact e
            · rw [upd_ne hb] at e ⊢; exact h3 _ _ e
          · by_cases hb : b = Tp
            · subst hb; exact .inr hT
            · rw [upd_ne hb] at e; exact .inl e
      · cases e
    | [], [], _, p1 => exact p1.elim
    | [_], [_], _, p1 => exact p1.elim
    | _ :: _ :: _ :: _, _, _, p1 => exact p1.elim⟩⟩
theorem si_enumY {elts : List Expr} {kk : Nat} (hg : Gl X "enumerate") (hm : X.mg "enumerate" = none) (ha : SQ X a ca) (hs : starEach [a] X.env = [(false, eval a X.env)] := by rfl) :
    SI X (.Tuple elts kk tpos) (.Call (.Name "enumerate" p) [a] [] pos) (ciEnumY ca) :=
  ⟨fun W tk => piI (pi_enumY hg hm ((sqs_cons ha sqs_nil hs).run W tk) hs) fun σ H R ⟨ρ, Z, S, p⟩ => ⟨ρ, Z, S, PoB.bnd (k1 := kQs) (Po.b p) (.refl ρ σ H Z) fun rs vs ρ1 H1 Z1 S1 E1 o1 p1 => by
    match rs, vs, o1, p1 with
    | [x], [v], o1, p1 =>
      obtain ⟨ds, e, p2⟩ := PoB.ofO p1
      unfold enumOY at e
      cases hs : seqY x with
      | none => rw [hs] at e; cases e
      | some xs =>
        rw [hs] at e
        cases e
        obtain ⟨k1, vs1, P1, rfl, r1, g1, s1⟩ := qOk_seqY S1 o1.1 hs
        refine ⟨k1, vs1, rfl, s1 H1 Z1 (fun _ _ => rfl) (.refl _) S1.sub, p2 _ H1 Z1 S1 (.refl _ _ _ _) ⟨P1, g1, fun H2 Z2 h1 h2 h3 => ?_⟩⟩
        · have q1 := s1 H2 Z2 h1 h2 h3
          have l1 := r1.length
          refine ⟨⟨vs1, q1, by rw [enumD_len]; omega⟩, fun i d hd => ?_⟩
          obtain ⟨d1, g1, rfl⟩ := enumD_get hd
          obtain ⟨v1, e1, rp1⟩ := r1.get g1
          refine ⟨⟨vs1, v1, q1, e1⟩, fun x H3 ⟨Tp, x1, ex, hT, eH, hx1⟩ => ?_⟩
          subst ex eH
          have n1 := hx1 vs1 q1
          rw [e1] at n1
          cases n1
          have zT : Z2 Tp = none := by
            cases ez : Z2 Tp with
            | none => rfl
            | some o => rw [h3 _ _ ez] at hT; cases hT
          refine ⟨upd_le hT, upd Z2 Tp (.tup [.int (i : Nat), v1]), upd_le zT, fun b u e => ?_, fun b u e => ?_, Tp, [.int (i : Nat), v1], rfl, .of upd_same, .int (i : Nat), [v1], rfl, by rw [Nat.zero_add]; rfl, v1, [], rfl, (rp1.mono h2).mono (upd_le zT), rfl⟩
          · by_cases hb : b = Tp
            · subst hb; rw [upd_same] at e ⊢; exact e
            · rw [upd_ne hb] at e ⊢; exact h3 _ _ e
          · by_cases hb : b = Tp
            · subst hb; exact .inr hT
            · rw [upd_ne hb] at e; exact .inl e
    | [], [], _, p1 => exact p1.elim
    | _ :: _ :: _, _, _, p1 => exact p1.elim⟩⟩
end
end CI
end
section
set_option maxRecDepth 100000
set_option maxHeartbeats 2000000
/-! CISt: sorted of a tuple of ints; one sign in a text. -/
namespace CI
open PySem PySem.Spec L2 PyProof.Rows SrtO
section
variable {prog : Program} {w : World} {A : Around} {E : Value → Shared → Prop} {s : Shared}
abbrev collT (h : Heap) (us : List Value) : Heap := (h.push (seqObj "list" #[] 0)).update h.objs.size (Obj.mapSeq (· ++ us.toArray))
theorem collT_run {l : Addr} {us : List Value} {Q : List Value → Shared → Prop} (ht : s.heap.IsTuple l us.toArray) (hn : us.length ≤ sizeLine) (h : Q us { s with heap := collT s.heap us }) : wpAny (model prog w) A (collect (.ref l)) Q E s := by
  have q := id ht
  obtain ⟨o, g1, g2, n, g3⟩ := q
  have g4 : (s.heap.push (seqObj "list" #[] 0)).get? l = some o := Heap.get?_push_of_some _ g1
  have g5 : (s.heap.push (seqObj "list" #[] 0)).get? s.heap.objs.size = some (seqObj "list" #[] 0) := Heap.get?_push_size _ rfl
  have e0 : ((#[] : Array Value) ++ us.toArray).toList = us := by simp
  unfold collect
  refine wpAny_bind (wpAny_runValue (codeAny_builtin entry_proto_collect' ?_))
  change wpAny _ _ (do again (.builtin "list.__iadd__" ⟨[← newList [], .ref l], []⟩)) _ _ s
  refine wpAny_bind (wpAny_newList (wpAny_pure ⟨Code.quiet_builtin _ (by decide +kernel), codeAny_builtin entry_list_iadd' ?_⟩))
  change wpAny _ _ (Builtin.List.listExtendWith (.ref s.heap.objs.size) (.ref l) (.ref s.heap.objs.size)) _ _ { s with heap := s.heap.push (seqObj "list" #[] 0) }
  unfold Builtin.List.listExtendWith
  refine wpAny_bind (wpAny_typeOf (T := "tuple") ⟨o, g4, g2⟩ ?_)
  rw [if_pos (by rw [show (Value.type "tuple" == Value.type "tuple") = true from rfl, Bool.or_true])]
  refine wpAny_bind (listItems_at g4 g3 (wpAny_bind (listItems_at g5 rfl ?_)))
  rw [if_neg (by simp)]
  refine wpAny_bind (listUpdate_at g5 rfl ?_ (Nat.zero_le _) (by
    show (#[] ++ us.toArray).size ≤ sizeLine + 1
    simp only [Array.size_append, List.size_toArray, List.length_nil]
    omega))
  refine wpAny_pure ?_
  change wpAny _ A (load s.heap.objs.size >>= _) _ _ _
  refine wpAny_bind (wpAny_load (get?_update_seq g5 _) ?_)
  change wpAny _ _ (pure ((#[] : Array Value) ++ us.toArray).toList) Q E _
  rw [e0]
  exact wpAny_pure h
theorem sortedT_ord {l : Addr} {us : List Value} {lv : Value → Value → Bool} {Q : Value → Shared → Prop} (O : Swo lv) (ht : s.heap.IsTuple l us.toArray) (hn : us.length ≤ sizeLine)
    (hS : 2 ≤ us.length → ∀ (h₁ : Heap) (a : Addr), h₁.get? a = some (seqObj "list" us.toArray 0) → (∀ b o, s.heap.get? b = some o → b ≠ a ∧ h₁.get? b = some o) → SortableO prog w A.in1.in1 { s with heap := h₁ } a us lv)
    (h : ∀ r : List Value, Srtd lv r → Stb lv r us → Q (.ref (s.heap.objs.size + 1)) { s with heap := sortedAll s.heap us r.toArray }) : wpAny (model prog w) A (call (.builtin "sorted") [.ref l]) Q E s := by
  refine Calls.call_function_entry kind_sorted plain_sorted entry_sorted (args_sorted1 _) ?_
  unfold Builtin.«sorted»
  refine wpAny_bind (m := checkCount "sorted" 1 1 _) (wpAny_pure (wpAny_bind (collT_run ht hn (wpAny_bind (wpAny_newList ?_ hn)))))
  have z1 : (collT s.heap us).objs.size = s.heap.objs.size + 1 := by rw [Heap.size_update, size_push']
  have z2 : ((collT s.heap us).push (seqObj "list" us.toArray 0)).get? (s.heap.objs.size + 1) = some (seqObj "list" us.toArray 0) := z1 ▸ Heap.get?_push_size _ rfl
  have z3 : ∀ b o, s.heap.get? b = some o → b ≠ s.heap.objs.size + 1 ∧ ((collT s.heap us).push (seqObj "list" us.toArray 0)).get? b = some o := fun b o q => by
    have lt : b < s.heap.objs.size := Heap.lt_size q
    refine ⟨Nat.ne_of_lt (Nat.lt_succ_of_lt lt), Heap.get?_push_of_some _ ?_⟩
    unfold collT
    rw [Heap.get?_update_ne _ _ _ _ (Nat.ne_of_lt lt)]
    exact Heap.get?_push_of_some _ q
  change wpAny _ _ _ _ _ { s with heap := (collT s.heap us).push (seqObj "list" us.toArray 0) }
  rw [z1]
  refine wpAny_bind (wpAny_holding (wpAny_call_entry slot_list_sort ⟨_, z2, rfl⟩ entry_list_sort (list_sort_ord O z2 hn (fun h2 => hS h2 _ _ z2 z3) fun r q1 q2 => ⟨_, rfl, ?_⟩) (args_list_sort _)))
  exact wpAny_pure ⟨_, rfl, h r q1 q2⟩
end
section
variable {X : Cx}
def rSortTup (K : PySem.W.Frag) : List V → Hp → VK → Prop := fun vs H Q => ∃ (a : Addr) (ns : List Int), vs = [V.ref a] ∧ SqT K H a (ns.map V.int) ∧
  ∀ (ns' : List Int) (p : Addr), ns'.Perm ns → ns'.Pairwise (· ≤ ·) → H p = none → Q (.ref p) (upd H p (.lst (ns'.map V.int)))
theorem cr_sortTup : CallR X (.builtin "sorted") (rSortTup X.K) := by
  intro pins s σ H vs us Q I r h
  obtain ⟨a, ns, rfl, hs, q⟩ := h
  obtain ⟨its, rv, hl, hz⟩ := I.tuple hs
  rw [Vals.ref1 r]
  have hi := rv.ints
  refine sortedT_ord swo_int hl (by rw [← rv.length]; exact hz) (fun h2 h₁ a' _ _ => ints_sortable hi h2) fun out h1 h2 => ?_
  obtain ⟨k1, k2, k3⟩ := ints_out hi h1 h2
  obtain ⟨ep, he'⟩ := sortedAll_at s.heap its out.toArray
  have hlen : ((out.map iv).map V.int).length ≤ sizeLine := by
    have e1 := k2.length_eq
    rw [List.length_map] at hz ⊢
    omega
  refine ⟨.ref _, upd H (s.heap.objs.size + 1) (.lst ((out.map iv).map V.int)), ?_, rfl, q _ _ k2 k3 (I.hok.fresh (Nat.le_succ _))⟩
  exact I.laid (t' := s.toks) (fun _ _ => sortedAll_old) (Nat.le_succ _) ⟨hlen, out, ep, vals_of_ints k1, he'⟩
def gSortTup : D → Option Rv
  | .tup ds => (intsD ds).bind fun ns => some (.own (.lst ((sortI ns).map .int)))
  | _ => none
theorem fits_sortTup : FitsC X (rSortTup X.K) (uD gSortTup) := FitsC.un fun ρ σ H Z d x rv Q S h e k => by
  unfold gSortTup at e
  split at e
  · rename_i ds
    cases hn : intsD ds with
    | none => rw [hn] at e; cases e
    | some ns =>
      rw [hn] at e; cases e
      obtain ⟨a, vs, rfl, q1, r1⟩ := rd_tup S.sub h
      refine ⟨a, ns, rfl, by rw [← ints_rep r1 hn]; exact q1, fun ns' p h1 h2 hp => ?_⟩
      rw [sortI_uniq h1 h2]
      exact k _ _ _ (S.new hp) (EStep.new hp) (rv_lst S hp (reps_ints _))
  · cases e
def gSortY : List D → Option Rv := orL gSorted (uD gSortTup)
theorem cr_sortY : CallR X (.builtin "sorted") (fun vs H Q => rSortA X.K vs H Q ∨ rSortTup X.K vs H Q) := CallR.or cr_sortA cr_sortTup
theorem fits_sortY : FitsC X (fun vs H Q => rSortA X.K vs H Q ∨ rSortTup X.K vs H Q) gSortY := FitsC.or fits_sorted fits_sortTup
end
end CI
end
section
set_option maxRecDepth 100000
/-! CIEv3: rules for zip and enumerate of anything, dicts, errors with fields, texts as rows of signs, while, comprehensions of any shape. -/
namespace CI
open PySem L2 PyProof.Rows
section
variable {α β : Type} {ρ ρ' ρ1 ρ2 : En} {i j : Nat} {d : D} {r : Rv}
def chD (x : Str) : List D := x.cps.toList.map fun c => D.str ⟨#[c]⟩
@[simp] theorem ev_zipY (a b : Mn D) : (ciZipY a b) ρ = (bnd (cCons a (cCons b cNil)) fun ds => match ds with
  | [x, y] => ofO (zipOY x y)
  | _ => stk) ρ := by exact Eq.trans rfl rfl
@[simp] theorem ev_zipY1 (xs ys : List D) : zipOY (.lst xs) (.lst ys) = some (zipD xs ys) := by exact Eq.trans rfl rfl
@[simp] theorem ev_zipY2 (xs ys : List D) : zipOY (.tup xs) (.lst ys) = some (zipD xs ys) := by exact Eq.trans rfl rfl
@[simp] theorem ev_zipY3 (xs ys : List D) : zipOY (.lst xs) (.tup ys) = some (zipD xs ys) := by exact Eq.trans rfl rfl
@[simp] theorem ev_zipY4 (xs ys : List D) : zipOY (.tup xs) (.tup ys) = some (zipD xs ys) := by exact Eq.trans rfl rfl
@[simp] theorem ev_zipY5 (xs : List D) (z : Str) : zipOY (.tup xs) (.str z) = some (zipD xs (chD z)) := by exact Eq.trans rfl rfl
@[simp] theorem ev_zipY6 (xs : List D) (z : Str) : zipOY (.lst xs) (.str z) = some (zipD xs (chD z)) := by exact Eq.trans rfl rfl
@[simp] theorem ev_enumY (a : Mn D) : (ciEnumY a) ρ = (bnd (cCons a cNil) fun ds => match ds with
  | [x] => ofO (enumOY x)
  | _ => stk) ρ := by exact Eq.trans rfl rfl
@[simp] theorem ev_enumY1 (xs : List D) : enumOY (.lst xs) = some (enumD 0 xs) := by exact Eq.trans rfl rfl
@[simp] theorem ev_enumY2 (xs : List D) : enumOY (.tup xs) = some (enumD 0 xs) := by exact Eq.trans rfl rfl
@[simp] theorem ev_cML (g : D → List D → Option Rv) (co : Mn Rv) (cs : Mn (List Rv)) : (cML g co cs) ρ = (bnd co fun r => if isLstD r.d = true then bnd cs fun rs => ofO (g r.d (rs.map Rv.d)) else stk) ρ := by exact Eq.trans rfl rfl
@[simp] theorem ev_isL (xs : List D) : isLstD (.lst xs) = true := by exact Eq.trans rfl rfl
def rseK (x f : Str) (g : Rv → Option D) : List Rv → Mn Fl := fun rs => match rs with
  | [r] => (match g r with
    | some d => fun ρ => .exc (x, [(f, d)]) ρ
    | none => stk)
  | _ => stk
@[simp] theorem ev_rseF (x f : Str) (g : Rv → Option D) (c : Mn (List Rv)) : cRseF x f g c ρ = bndK (c ρ) (rseK x f g) := by exact Eq.trans rfl rfl
@[simp] theorem ev_rseK (x f : Str) : rseK x f gKeep [.val d] ρ = .exc (x, [(f, d)]) ρ := by exact Eq.trans rfl rfl
@[simp] theorem ev_rseT1 (x f : Str) (ds : List D) : rseK x f gTupl [.val (.tup ds)] ρ = .exc (x, [(f, .tup ds)]) ρ := by exact Eq.trans rfl rfl
@[simp] theorem ev_rseT2 (x f : Str) (ds : List D) : rseK x f gTupl [.val (.lst ds)] ρ = .exc (x, [(f, .tup ds)]) ρ := by exact Eq.trans rfl rfl
@[simp] theorem ev_rseT3 (x f : Str) (ds : List D) : rseK x f gTupl [.bor (.lst ds)] ρ = .exc (x, [(f, .tup ds)]) ρ := by exact Eq.trans rfl rfl
@[simp] theorem v_isB (a b : Bool) : oIsB (.bl a) (.bl b) = some (.val (.bl (decide (a = b)))) := by exact Eq.trans rfl rfl
@[simp] theorem v_notB (a b : Bool) : oNotB (.bl a) (.bl b) = some (.val (.bl (!decide (a = b)))) := by exact Eq.trans rfl rfl
@[simp] theorem v_rev (xs : List D) : gRev (.lst xs) = some (.own (.lst xs.reverse)) := by exact Eq.trans rfl rfl
theorem v_lrg {n : Nat} (h : n ≤ 2 ^ 24) : gLrg1 (.int (n : Int)) = some (.own (.lst (rgD 0 n))) := by
  have h1 : rgOkB 0 (n : Int) = true := by unfold rgOkB; simp; omega
  show (if rgOkB 0 (n : Int) then some (Rv.own (.lst (rgDi 0 (n : Int)))) else none) = _
  rw [if_pos h1]
  have : rgDi 0 (n : Int) = rgD 0 n := by unfold rgDi rgD; simp
  rw [this]
/-! lists of ints -/
theorem intsD_map : ∀ ns : List Int, intsD (ns.map D.int) = some ns
  | [] => rfl
  | n :: ns => by rw [List.map_cons]; unfold intsD; rw [intsD_map ns]; rfl
theorem v_index {ns : List Int} {a : Int} (h : a ∈ ns) : gIndex (.lst (ns.map .int)) [.int a] = some (.val (.int (ns.idxOf a : Nat))) := by
  unfold gIndex
  simp only [lstD, Option.bind_some, intsD_map, if_pos h, v_vI]
theorem vsOf_ints : ∀ ns : List Int, vsOf (ns.map D.int) = some (ns.map V.int)
  | [] => rfl
  | n :: ns => by rw [List.map_cons]; unfold vsOf; rw [vsOf_ints ns]; rfl
theorem inV_ints (a : Int) (ns : List Int) : inV (.int a) (ns.map V.int) = decide (a ∈ ns) := by
  unfold inV
  induction ns with
  | nil => rfl
  | cons n ns ih =>
    rw [List.map_cons, List.any_cons, ih]
    by_cases h : a = n
    · subst h; simp [eqV]
    · have : ¬ n = a := fun e => h e.symm
      simp [eqV, h, this]
theorem v_inI (a : Int) (ns : List Int) : oIn (.int a) (.lst (ns.map .int)) = some (.val (.bl (decide (a ∈ ns)))) := by
  have : oInF (.int a) (.lst (ns.map .int)) = some (.val (.bl (decide (a ∈ ns)))) := by
    unfold oInF inF
    simp only [vOf, seqD, Option.bind_some, vsOf_ints, inV_ints, v_vB]
  unfold oIn orF
  rw [this]
theorem v_notInI (a : Int) (ns : List Int) : oNotIn (.int a) (.lst (ns.map .int)) = some (.val (.bl (!decide (a ∈ ns)))) := by
  have : oNotInF (.int a) (.lst (ns.map .int)) = some (.val (.bl (!decide (a ∈ ns)))) := by
    unfold oNotInF inF
    simp only [vOf, seqD, Option.bind_some, vsOf_ints, inV_ints, v_vB]
  unfold oNotIn orF
  rw [this]
def pL (v : List Int) : PyData := .list (v.map .int)
theorem py_lst (v : List Int) : pyOf (.lst (v.map D.int)) = some (pL v) := by
  show (pyAll (v.map D.int)).map PyData.list = _
  rw [py_ints]; rfl
theorem sh_lst (v : List Int) : SeqAt.shaped (pL v) = true := by
  have := dep_ints v
  simp [SeqAt.shaped, pL, PyData.canLay0, PyData.depth, lay_ints]
  omega
theorem eqv_lst (v w : List Int) : PyData.eqv (pL v) (pL w) = decide (v = w) := by
  unfold pL; rw [PyData.eqv, eqv_ints]
theorem v_eqL (v w : List Int) : oEq (.lst (v.map .int)) (.lst (w.map .int)) = some (.val (.bl (decide (v = w)))) := by
  unfold oEq eqD
  rw [py_lst, py_lst]
  simp [sh_lst, eqv_lst]
theorem v_neL (v w : List Int) : oNe (.lst (v.map .int)) (.lst (w.map .int)) = some (.val (.bl (!decide (v = w)))) := by
  unfold oNe eqD
  rw [py_lst, py_lst]
  simp [sh_lst, eqv_lst]
theorem v_eqS {a b : Str} (ha : PyData.strOk a = true) (hb : PyData.strOk b = true) : oEq (.str a) (.str b) = some (.val (.bl (decide (a = b)))) := by
  have h1 : SeqAt.shaped (.str a) = true := by simp [SeqAt.shaped, PyData.canLay0, PyData.depth, ha]
  have h2 : SeqAt.shaped (.str b) = true := by simp [SeqAt.shaped, PyData.canLay0, PyData.depth, hb]
  have h3 : PyData.eqv (.str a) (.str b) = (a == b) := by simp [PyData.eqv]
  simp only [oEq, eqD, pyOf, h1, h2, h3, Bool.and_self, if_true, Option.bind_some, v_vB]
  rfl
@[simp] theorem v_eqB (a b : Bool) : oEq (.bl a) (.bl b) = some (.val (.bl (decide (a = b)))) := by
  have h1 : SeqAt.shaped (.bool a) = true := rfl
  have h2 : SeqAt.shaped (.bool b) = true := rfl
  have h3 : PyData.eqv (.bool a) (.bool b) = (a == b) := by cases a <;> cases b <;> decide +kernel
  simp only [oEq, eqD, pyOf, h1, h2, h3, Bool.and_self, if_true, Option.bind_some, v_vB]
  cases a <;> cases b <;> rfl
theorem v_sortL (ns : List Int) : gSortY [.lst (ns.map .int)] = some (.own (.lst ((sortI ns).map .int))) := by
  have : gSorted [.lst (ns.map .int)] = some (.own (.lst ((sortI ns).map .int))) := by
    have e : uD gSortedI [.lst (ns.map .int)] = some (.own (.lst ((sortI ns).map .int))) := by
      rw [ev_uD]
      unfold gSortedI
      simp only [intsD_map, Option.bind_some]
    unfold gSorted orL
    rw [e]
  unfold gSortY orL
  rw [this]
theorem v_sortT (ns : List Int) : gSortY [.tup (ns.map .int)] = some (.own (.lst ((sortI ns).map .int))) := by
  have e1 : gSorted [.tup (ns.map .int)] = none := rfl
  have e : uD gSortTup [.tup (ns.map .int)] = some (.own (.lst ((sortI ns).map .int))) := by
    rw [ev_uD]
    unfold gSortTup
    simp only [intsD_map, Option.bind_some]
  unfold gSortY orL
  rw [e1]
  simp only
  rw [e]
/-! while -/
theorem wh_F {c : Mn Bool} {b : Mn Fl} (h : c ρ = .ok false ρ1) : cWhile c b ρ = .ok .nx ρ1 := by
  have e : whileN c b 1 ρ = .ok .nx ρ1 := by show bnd c _ ρ = _; rw [ev_bnd, h, bk1]; rfl
  rw [while_eq (n := 1) (by rw [e]; rfl), e]
theorem wh_R {c : Mn Bool} {b : Mn Fl} (h : c ρ = .ok true ρ1) (hb : b ρ1 = .ok (.ret r) ρ2) : cWhile c b ρ = .ok (.ret r) ρ2 := by
  have e : whileN c b 1 ρ = .ok (.ret r) ρ2 := by
    show bnd c _ ρ = _
    rw [ev_bnd, h, bk1, if_pos rfl]
    simp only [hb]
  rw [while_eq (n := 1) (by rw [e]; rfl), e]
theorem wh_T {c : Mn Bool} {b : Mn Fl} {o : Out Fl} (h : c ρ = .ok true ρ1) (hb : b ρ1 = .ok .nx ρ2 ∨ b ρ1 = .ok .cnt ρ2) (hr : cWhile c b ρ2 = o) (ho : o.isStuck = false) : cWhile c b ρ = o := by
  have e : ∀ n, whileN c b (n + 1) ρ = whileN c b n ρ2 := fun n => by
    show bnd c _ ρ = _
    rw [ev_bnd, h, bk1, if_pos rfl]
    rcases hb with hb | hb <;> simp only [hb]
  by_cases hx : ∃ n, (whileN c b n ρ2).isStuck = false
  · obtain ⟨n, hn⟩ := hx
    rw [while_eq (n := n + 1) (by rw [e]; exact hn), e, ← while_eq hn, hr]
  · unfold cWhile at hr
    rw [dif_neg hx] at hr
    subst hr
    cases ho
/-! comprehensions of any shape, by their turns -/
theorem lcL_G {t : Tn} {cond : Mn Bool} {elt : Mn Rv} {vs : List Nat} {xs : List β} (inj : β → D) (c : β → Bool) (g : β → D) (w : β → En)
    (h : ∀ x ∈ xs, setTn t (inj x) ρ1 = some (w x) ∧ wipeE (w x) vs = ρ1 ∧ cond (w x) = .ok (c x) (w x) ∧ (c x = true → cV elt (w x) = .ok (g x) (w x))) :
    ∀ (ys : List β) (acc : List D), (∀ x ∈ ys, x ∈ xs) → acc.length + ys.length ≤ sizeLine → lcL t cond elt vs (ys.map inj) acc ρ1 = some (acc ++ (ys.filter c).map g, ρ1) := by
  intro ys
  induction ys with
  | nil => intro acc _ _; simp [lcL]
  | cons y ys ih =>
    intro acc hm hz
    obtain ⟨e1, e2, e3, e4⟩ := h y (hm y List.mem_cons_self)
    have hm' : ∀ x ∈ ys, x ∈ xs := fun x hx => hm x (List.mem_cons_of_mem _ hx)
    have hz : acc.length + (ys.length + 1) ≤ sizeLine := hz
    rw [List.map_cons]
    unfold lcL
    rw [e1, Option.bind_some]
    unfold lcTurn
    rw [e3]
    cases hc : c y with
    | false =>
      simp only [Option.bind_some]
      rw [e2, ih acc hm' (by omega), List.filter_cons, hc]
      rfl
    | true =>
      simp only [e4 hc, Option.bind_some]
      rw [if_pos (by omega), e2, ih _ hm' (by simp; omega), List.filter_cons, hc]
      simp
theorem ev_lcG {it : Mn (List D)} {t : Tn} {cond : Mn Bool} {elt : Mn Rv} {vs : List Nat} {xs : List β} (ρw : En) (inj : β → D) (c : β → Bool) (g : β → D) (w : β → En) (h1 : it ρ = .ok (xs.map inj) ρ1) (hok : (okOwn ρ1 vs && t.ix.all fun i => vs.contains i) = true)
    (hw : wipeE ρ1 vs = ρw) (hr : restE ρ1 ρw vs = ρ1) (hz : xs.length ≤ sizeLine)
    (h : ∀ x ∈ xs, setTn t (inj x) ρw = some (w x) ∧ wipeE (w x) vs = ρw ∧ cond (w x) = .ok (c x) (w x) ∧ (c x = true → cV elt (w x) = .ok (g x) (w x))) :
    cLc it t cond elt vs ρ = .ok (.own (.lst ((xs.filter c).map g))) ρ1 := by
  have key := lcL_G inj c g w h xs [] (fun _ h => h) (by simpa using hz)
  have e := ev_lc (t := t) (cond := cond) (elt := elt) (vs := vs) h1 hok (by rw [hw]; exact key)
  rw [e]
  simp [hr]
theorem dcL_G {t : Tn} {cond : Mn Bool} {kc elt : Mn Rv} {vs : List Nat} {xs : List β} (inj : β → D) (k : β → Key) (kd : β → D) (g : β → D) (w : β → En)
    (h : ∀ x ∈ xs, setTn t (inj x) ρ1 = some (w x) ∧ wipeE (w x) vs = ρ1 ∧ cond (w x) = .ok true (w x) ∧ cV kc (w x) = .ok (kd x) (w x) ∧ cV elt (w x) = .ok (g x) (w x) ∧ keyD (kd x) = some (k x)) :
    ∀ (ys : List β) (acc : List (D × D)), (∀ x ∈ ys, x ∈ xs) → acc.length + ys.length ≤ sizeLine → dcL t cond kc elt vs (ys.map inj) acc ρ1 = some (ys.foldl (fun a x => putKD a (k x) (g x)) acc, ρ1) := by
  intro ys
  induction ys with
  | nil => intro acc _ _; simp [dcL]
  | cons y ys ih =>
    intro acc hm hz
    obtain ⟨e1, e2, e3, e4, e5, e6⟩ := h y (hm y List.mem_cons_self)
    have hm' : ∀ x ∈ ys, x ∈ xs := fun x hx => hm x (List.mem_cons_of_mem _ hx)
    have hz : acc.length + (ys.length + 1) ≤ sizeLine := hz
    rw [List.map_cons]
    unfold dcL
    rw [e1, Option.bind_some]
    unfold dcTurn
    rw [e3]
    simp only [e4, e5, e6, Option.bind_some]
    rw [if_pos (by omega), e2, ih _ hm' (by
      have : (putKD acc (k y) (g y)).length ≤ acc.length + 1 := by unfold putKD; split <;> simp
      omega)]
    rfl
theorem ev_dcG {it : Mn (List D)} {t : Tn} {cond : Mn Bool} {kc elt : Mn Rv} {vs : List Nat} {xs : List β} (ρw : En) (inj : β → D) (k : β → Key) (kd : β → D) (g : β → D) (w : β → En) (h1 : it ρ = .ok (xs.map inj) ρ1) (hok : (okOwn ρ1 vs && t.ix.all fun i => vs.contains i) = true)
    (hw : wipeE ρ1 vs = ρw) (hr : restE ρ1 ρw vs = ρ1) (hz : xs.length ≤ sizeLine)
    (h : ∀ x ∈ xs, setTn t (inj x) ρw = some (w x) ∧ wipeE (w x) vs = ρw ∧ cond (w x) = .ok true (w x) ∧ cV kc (w x) = .ok (kd x) (w x) ∧ cV elt (w x) = .ok (g x) (w x) ∧ keyD (kd x) = some (k x)) :
    cDc it t cond kc elt vs ρ = .ok (.own (.dic (xs.foldl (fun a x => putKD a (k x) (g x)) []))) ρ1 := by
  have key := dcL_G inj k kd g w h xs [] (fun _ h => h) (by simpa using hz)
  unfold cDc
  rw [ev_bnd, h1, bk1]
  rw [if_pos hok, hw, key]
  simp [hr]
/-! texts as rows of signs -/
def mkS (cs : List Nat) : Str := ⟨cs.toArray⟩
theorem mkS_len (cs : List Nat) : (mkS cs).length = cs.length := by show (cs.toArray).size = _; simp
theorem mkS_ch (cs : List Nat) : chD (mkS cs) = cs.map fun c => D.str (mkS [c]) := by unfold chD mkS; simp
theorem mkS_inj {a b : List Nat} : mkS a = mkS b ↔ a = b := by unfold mkS; simp
theorem mkS_app (a b : List Nat) : mkS a ++ mkS b = mkS (a ++ b) := by
  show (⟨a.toArray ++ b.toArray⟩ : Str) = _
  unfold mkS; simp
theorem v_addS {a b : List Nat} (h : a.length + b.length ≤ sizeLine) : oAdd (.str (mkS a)) (.str (mkS b)) = some (.val (.str (mkS (a ++ b)))) := by
  show (if sz ((mkS a).length + (mkS b).length) then vS (mkS a ++ mkS b) else none) = _
  rw [mkS_len, mkS_len, if_pos (sz_ok h), mkS_app]; rfl
theorem v_ixS {a : List Nat} {k : Nat} {c : Nat} (hl : a.length ≤ sizeLine) (h : a[k]? = some c) : ixD (.str (mkS a)) (.int (k : Int)) = some (.val (.str (mkS [c]))) := by
  show (if sz (mkS a).length then (atI (mkS a).cps.toList (k : Int)).map fun c => Rv.val (.str ⟨#[c]⟩) else none) = _
  rw [mkS_len, if_pos (sz_ok hl), atI_nat]
  show (a.toArray.toList[k]?).map _ = _
  rw [List.toList_toArray, h]; rfl
theorem v_slS {a : List Nat} (hl : a.length ≤ sizeLine) (lo hi : Option Int) : slD (.str (mkS a)) lo hi = some (.val (.str (mkS ((a.drop (HT.sIx a.length 0 lo)).take (HT.sIx a.length a.length hi - HT.sIx a.length 0 lo))))) := by
  show (if sz (mkS a).length then some (Rv.val (.str (cutS (mkS a) lo hi))) else none) = _
  rw [mkS_len, if_pos (sz_ok hl)]
  unfold cutS
  rw [mkS_len]
  have : (mkS a).cps.toList = a := by unfold mkS; simp
  rw [this]; rfl
theorem v_lenS {a : List Nat} (hl : a.length ≤ sizeLine) : gLen (.str (mkS a)) = some (.val (.int a.length)) := by
  show (if sz (mkS a).length then some (Rv.val (.int (mkS a).length)) else none) = _
  rw [mkS_len, if_pos (sz_ok hl)]
theorem mkS_ok {a : List Nat} (h : ∀ c ∈ a, c < 1000) : PyData.strOk (mkS a) = true := by
  unfold PyData.strOk mkS
  simp only [List.all_toArray, List.all_eq_true, decide_eq_true_eq]
  intro c hc
  have := h c hc
  omega
theorem v_eqM {a b : List Nat} (ha : ∀ c ∈ a, c < 1000) (hb : ∀ c ∈ b, c < 1000) : oEq (.str (mkS a)) (.str (mkS b)) = some (.val (.bl (decide (a = b)))) := by
  rw [v_eqS (mkS_ok ha) (mkS_ok hb)]
  by_cases h : a = b
  · subst h; simp
  · have : ¬ mkS a = mkS b := fun e => h (mkS_inj.mp e)
    simp [h, this]
theorem v_notInS (c : Nat) (b : List Nat) : oNotIn (.str (mkS [c])) (.str (mkS b)) = some (.val (.bl (!decide (c ∈ b)))) := by
  have e1 : oNotInF (.str (mkS [c])) (.str (mkS b)) = none := rfl
  have e2 : oNotInL (.str (mkS [c])) (.str (mkS b)) = none := rfl
  have e3 := PySem.StrLaws.found_one (mkS b) c
  have e4 : (mkS b).cps.toList = b := by unfold mkS; simp
  rw [e4] at e3
  unfold oNotIn orF
  rw [e1]
  simp only
  rw [e2]
  simp only
  show some (Rv.val (.bl (!(!(Builtin.Str.occurrences (mkS b) (mkS [c]) 0 (mkS b).length 1).isEmpty)))) = _
  first
    | rw [← e3]; rfl
    | (rw [e3]; rfl)
    | simp [← e3]
end
end CI
end
section
set_option maxRecDepth 100000
set_option maxHeartbeats 2000000
/-! CITx: a text walked by its name. -/
namespace CI
open PySem L2 PyProof.Rows
def ciVarY (i : Nat) : Mn (List D) := fun ρ => match ρ[i]? with
  | some (.val (.str x)) => .ok (chD x) ρ
  | _ => ciVar i ρ
theorem src_str {T : Tx} {ρ : En} {σ : L2.St} {H Z : Hp} {x : Str} {G : Addr → Prop} : Src T G ρ σ H Z (Its x) (chD x) := by
  refine ⟨[], fun b hb => by simp at hb, fun H1 Z1 h1 h2 h3 => ?_⟩
  have hl : (chD x).length = x.cps.size := by unfold chD; rw [List.length_map, Array.length_toList]
  refine ⟨Nat.le_of_eq hl.symm, fun i d hd => ?_⟩
  have hi : i < x.cps.size := by
    rw [← hl]
    rcases Nat.lt_or_ge i (chD x).length with w | w
    · exact w
    · rw [List.getElem?_eq_none w] at hd; cases hd
  refine ⟨hi, fun v H' ⟨e, c, hc, ev⟩ => ?_⟩
  subst e ev
  unfold chD at hd
  rw [List.getElem?_map, Array.getElem?_toList, hc] at hd
  cases hd
  exact ⟨.refl _, Z1, .refl _, h3, fun b o e => .inl e, rfl⟩
section
variable {X : Cx}
theorem si_varY {tg : Expr} {i : Nat} {x : Str} {pos : Pos} (hN : X.N[i]? = some x) (hv : Vis X.env.scope x) (hd : (x == ("__debug__" : Str)) = false := by decide) (hcd : (x == ("__classdict__" : Str)) = false := by decide) : SI X tg (.Name x pos) (ciVarY i) :=
  ⟨fun W tk => piI (PI.or ((si_var (tg := tg) (pos := pos) hN hv hd hcd).run W tk) (pi_str (pe_var hN hv hd hcd))) fun σ H R ⟨ρ, Z, S, p⟩ => by
    unfold ciVarY at p
    cases q : ρ[i]? with
    | none => rw [q] at p; exact .inl ⟨ρ, Z, S, p⟩
    | some s =>
      have z := S.slot i s q
      rw [q] at p
      cases s with
      | val d =>
        cases d with
        | str y =>
          obtain ⟨v, ev, r⟩ := z
          exact .inr ⟨v, ev, y, r, p _ H Z S (.refl _ _ _ _) src_str⟩
        | _ => exact .inl ⟨ρ, Z, S, p⟩
      | _ => exact .inl ⟨ρ, Z, S, p⟩⟩
end
@[simp] theorem ev_vY1 {ρ : En} {i : Nat} {xs : List D} (h : ρ[i]? = some (.val (.lst xs))) : ciVarY i ρ = .ok xs ρ := by unfold ciVarY; rw [h]; show ciVar i ρ = _; unfold ciVar; rw [h]; rfl
@[simp] theorem ev_vY2 {ρ : En} {i : Nat} {xs : List D} (h : ρ[i]? = some (.val (.tup xs))) : ciVarY i ρ = .ok xs ρ := by unfold ciVarY; rw [h]; show ciVar i ρ = _; unfold ciVar; rw [h]; rfl
@[simp] theorem ev_vY3 {ρ : En} {i : Nat} {xs : List D} (h : ρ[i]? = some (.bor (.lst xs))) : ciVarY i ρ = .ok xs ρ := by unfold ciVarY; rw [h]; show ciVar i ρ = _; unfold ciVar; rw [h]; rfl
@[simp] theorem ev_vY4 {ρ : En} {i : Nat} {x : Str} (h : ρ[i]? = some (.val (.str x))) : ciVarY i ρ = .ok (chD x) ρ := by unfold ciVarY; rw [h]
end CI
end
section
namespace W
open PySem L2 PyProof.Rows CI
set_option maxHeartbeats 0
set_option maxRecDepth 100000
def top (i : Nat) : Stmt := PySem.Challenge.pw_strikejoin_k56_direction_papers.main.body.getD i (.Pass ⟨0, 0, 0, 0⟩)
def inCls (i j : Nat) : Stmt := match top i with
  | .ClassDef _ _ _ b _ _ _ _ _ _ _ => b.getD j (.Pass ⟨0, 0, 0, 0⟩)
  | s => s
def su_BadElement : Str → Option Bool := suF [("BadEdge", false), ("BadElement", true), ("BadSigns", false), ("TooLarge", false)]
def su_BadSigns : Str → Option Bool := suF [("BadEdge", false), ("BadElement", false), ("BadSigns", true), ("TooLarge", false)]
def su_StrikejoinError : Str → Option Bool := suF [("BadEdge", true), ("BadElement", true), ("BadSigns", true), ("TooLarge", true)]
def su_ValueError : Str → Option Bool := suF [("BadEdge", true), ("BadElement", true), ("BadSigns", true), ("TooLarge", true)]
def xs_element : List Str := ["BadElement"]
def xs_signs : List Str := ["BadSigns"]
/-! check_signs: slots 0=signs 1=size 2=sign -/
noncomputable def B_check_signs (F : CI.Callee) : Mn Fl :=
    (cSeq (cIfS (cTst (cBin oNe (cBlt (uD gLen) (cCons (cA (cVar 0)) cNil)) (cVar 1)))
    (cRseF ("BadSigns" : Str) ("signs" : Str) gKeep (cCons (cA (cFrz 0)) cNil))
    cPass)
    (cLock 0 (cFor (ciVarY 0) (tNm 2)
    (cIfS (cTst (cBin oNotIn (cVar 2) (cCst (.str "+-"))))
    (cRseF ("BadSigns" : Str) ("signs" : Str) gKeep (cCons (cA (cFrz 0)) cNil))
    cPass))))
noncomputable def FI_check_signs : FnI := ⟨2, 3, B_check_signs⟩
/-! arrows_of: slots 0=graph 1=direction 2=arrows 3=first 4=second 5=sign -/
noncomputable def B_arrows_of (F : CI.Callee) : Mn Fl :=
    (cSeq (cSet 2 (cLst cNil))
    (cSeq (cLock 1 (cFor (ciZipY (qE (cFld (["Graph"] : List Str) ("edges" : Str) (cVar 0))) (qV 1)) (tTup [(tTup [(tNm 3), (tNm 4)]), (tNm 5)])
    (cIfS (cTst (cBin oEq (cVar 5) (cCst (.str "+"))))
    (cApp 2 (cTup (cCons (cV (cFrz 3)) (cCons (cV (cFrz 4)) cNil))))
    (cApp 2 (cTup (cCons (cV (cFrz 4)) (cCons (cV (cFrz 3)) cNil)))))))
    (cRet (cMv 2))))
noncomputable def FI_arrows_of : FnI := ⟨2, 6, B_arrows_of⟩
/-! _round_within: slots 0=arrows 1=left 2=node 3=passed 4=edges 5=edge 6=backwards 7=index 8=tail 9=head -/
noncomputable def B__round_within (F : CI.Callee) : Mn Fl :=
    (cSeq (cSet 2 (cBin ixD (cVar 1) (cCst (.int 0))))
    (cSeq (cSet 3 (cLst cNil))
    (cSeq (cSet 4 (cLst cNil))
    (cSeq (cWhile (cTst (cBin oNotIn (cVar 2) (cVar 3)))
    (cSeq (cApp 3 (cFrz 2))
    (cSeq (cSet 5 (cBin ixD (cLock 0 (cLc (ciEnumY (qV 0)) (.tup [(.nm 7), (.tup [(.nm 8), (.nm 9)])]) (cAnd (cTst (cBin oEq (cVar 9) (cVar 2))) (cTst (cBin oIn (cVar 8) (cVar 1)))) (cFrz 7) [7, 8, 9])) (cCst (.int 0))))
    (cSeq (cApp 4 (cFrz 5))
    (cSet 2 (cBin ixD (cBin ixD (cVar 0) (cVar 5)) (cCst (.int 0))))))))
    (cSeq (cSet 6 (cSl (cVar 4) (cPart (cML gIndex (cVar 3) (cCons (cA (cVar 2)) cNil))) cNoPart))
    (cRet (cBlt (uD gTuple) (cCons (cA (cUn gRev (cVar 6))) cNil))))))))
noncomputable def FI__round_within : FnI := ⟨2, 10, B__round_within⟩
/-! order_paper: slots 0=graph 1=direction 2=arrows 3=order 4=left 5=heads 6=ready 7=tail 8=head 9=node -/
noncomputable def B_order_paper (F : CI.Callee) : Mn Fl :=
    (cSeq (cExpr (cCall F ("check_signs" : Str) (cCons (cA (cFrz 1)) (cCons (cA (cFld (["Graph"] : List Str) ("size" : Str) (cVar 0))) cNil))))
    (cSeq (cSet 2 (cCall F ("arrows_of" : Str) (cCons (cA (cVar 0)) (cCons (cA (cVar 1)) cNil))))
    (cSeq (cSet 3 (cLst cNil))
    (cSeq (cSet 4 (cUn gLrg1 (cFld (["Graph"] : List Str) ("nodes" : Str) (cVar 0))))
    (cSeq (cWhile (cTr (cVar 4))
    (cSeq (cLock 2 (cSet 5 (cLc (ciVarY 2) (.tup [(.nm 7), (.nm 8)]) (cTst (cBin oIn (cVar 7) (cVar 4))) (cFrz 8) [7, 8])))
    (cSeq (cLock 4 (cSet 6 (cLc (ciVarY 4) (.nm 9) (cTst (cBin oNotIn (cVar 9) (cVar 5))) (cFrz 9) [9])))
    (cSeq (cIfS (cNot (cTr (cVar 6)))
    (cRet (cTup (cCons (cV (cCst (.str "round"))) (cCons (cV (cCall F ("_round_within" : Str) (cCons (cA (cVar 2)) (cCons (cA (cVar 4)) cNil)))) cNil))))
    cPass)
    (cSeq (cSet 3 (cBin oAdd (cVar 3) (cVar 6)))
    (cLock 4 (cSet 4 (cLc (ciVarY 4) (.nm 9) (cTst (cBin oIn (cVar 9) (cVar 5))) (cFrz 9) [9]))))))))
    (cRet (cTup (cCons (cV (cCst (.str "order"))) (cCons (cV (cBlt (uD gTuple) (cCons (cA (cVar 3)) cNil))) cNil)))))))))
noncomputable def FI_order_paper : FnI := ⟨2, 10, B_order_paper⟩
/-! shows_order: slots 0=graph 1=direction 2=nodes 3=places 4=tail 5=head 6=place 7=node -/
noncomputable def B_shows_order (F : CI.Callee) : Mn Fl :=
    (cSeq (cExpr (cCall F ("check_signs" : Str) (cCons (cA (cFrz 1)) (cCons (cA (cFld (["Graph"] : List Str) ("size" : Str) (cVar 0))) cNil))))
    (cSeq (cIfS (cTst (cBin oNe (cBlt gSortY (cCons (cA (cVar 2)) cNil)) (cUn gLrg1 (cFld (["Graph"] : List Str) ("nodes" : Str) (cVar 0)))))
    (cRet (cCst (.bl false)))
    cPass)
    (cSeq (cLock 2 (cSet 3 (cDc (ciEnumY (qV 2)) (.tup [(.nm 6), (.nm 7)]) cYes (cFrz 7) (cFrz 6) [6, 7])))
    (cSeq (cFor (ciSeq (cCall F ("arrows_of" : Str) (cCons (cA (cVar 0)) (cCons (cA (cVar 1)) cNil)))) (tTup [(tNm 4), (tNm 5)])
    (cIfS (cTst (cBin oGe (cBin dgetD (cVar 3) (cVar 4)) (cBin dgetD (cVar 3) (cVar 5))))
    (cRet (cCst (.bl false)))
    cPass))
    (cRet (cCst (.bl true)))))))
noncomputable def FI_shows_order : FnI := ⟨3, 8, B_shows_order⟩
/-! shows_round: slots 0=graph 1=direction 2=edges 3=edge 4=arrows 5=tails 6=heads -/
noncomputable def B_shows_round (F : CI.Callee) : Mn Fl :=
    (cSeq (cExpr (cCall F ("check_signs" : Str) (cCons (cA (cFrz 1)) (cCons (cA (cFld (["Graph"] : List Str) ("size" : Str) (cVar 0))) cNil))))
    (cSeq (cLock 2 (cFor (ciVarY 2) (tNm 3)
    (cIfS (cNot (cTst (cChain oLe oLt (cCst (.int 0)) (cVar 3) (cFld (["Graph"] : List Str) ("size" : Str) (cVar 0)))))
    (cRseF ("BadElement" : Str) ("element" : Str) gKeep (cCons (cA (cFrz 3)) cNil))
    cPass)))
    (cSeq (cIfS (cTst (cBin oEq (cBlt (uD gLen) (cCons (cA (cVar 2)) cNil)) (cCst (.int 0))))
    (cRet (cCst (.bl false)))
    cPass)
    (cSeq (cSet 4 (cCall F ("arrows_of" : Str) (cCons (cA (cVar 0)) (cCons (cA (cVar 1)) cNil))))
    (cSeq (cLock 2 (cSet 5 (cLc (ciVarY 2) (.nm 3) cYes (cBin ixD (cBin ixD (cVar 4) (cVar 3)) (cCst (.int 0))) [3])))
    (cSeq (cLock 2 (cSet 6 (cLc (ciVarY 2) (.nm 3) cYes (cBin ixD (cBin ixD (cVar 4) (cVar 3)) (cCst (.int 1))) [3])))
    (cRet (cAndV (cBin oEq (cVar 6) (cBin oAdd (cSl (cVar 5) (cPart (cCst (.int 1))) cNoPart) (cSl (cVar 5) cNoPart (cPart (cCst (.int 1)))))) (cBin oEq (cUn gLenSet (cVar 5)) (cBlt (uD gLen) (cCons (cA (cVar 5)) cNil)))))))))))
noncomputable def FI_shows_round : FnI := ⟨3, 7, B_shows_round⟩
/-! Graph: slots 0=self 1=nodes 2=edges 3=u 4=v -/
noncomputable def B_Graph (F : CI.Callee) : Mn Fl :=
    (cSeq (cIfS (cNot (cTst (cChain oLe oLe (cCst (.int 0)) (cVar 1) (cCst (.int 10)))))
    (cRse ("TooLarge" : Str))
    cPass)
    (cSeq (cIfS (cTst (cBin oGt (cBlt (uD gLen) (cCons (cA (cVar 2)) cNil)) (cCst (.int 10))))
    (cRse ("TooLarge" : Str))
    cPass)
    (cSeq (cLock 2 (cFor (ciVarY 2) (tTup [(tNm 3), (tNm 4)])
    (cIfS (cNot (cAnd (cTst (cChain oLe oLt (cCst (.int 0)) (cVar 3) (cVar 1))) (cTst (cChain oLe oLt (cCst (.int 0)) (cVar 4) (cVar 1)))))
    (cRseF ("BadEdge" : Str) ("edge" : Str) gTupl (cCons (cA (cTup (cCons (cV (cFrz 3)) (cCons (cV (cFrz 4)) cNil)))) cNil))
    cPass)))
    (cSeq (cFldS 0 ("Graph" : Str) ("nodes" : Str) (cFrz 1))
    (cSeq (cFldS 0 ("Graph" : Str) ("edges" : Str) (cBlt (uD gTuple) (cCons (cA (cLock 2 (cLc (ciVarY 2) (.tup [(.nm 3), (.nm 4)]) cYes (cTup (cCons (cV (cFrz 3)) (cCons (cV (cFrz 4)) cNil))) [3, 4]))) cNil)))
    (cSeq (cFldS 0 ("Graph" : Str) ("size" : Str) (cBlt (uD gLen) (cCons (cA (cVar 2)) cNil)))
    (cFldS 0 ("Graph" : Str) ("text" : Str) (cBin oAdd (cBin oAdd (cBlt (uD gStr) (cCons (cA (cVar 1)) cNil)) (cCst (.str ":"))) (cM1 joinD (cCst (.str "")) (cLock 2 (cLc (ciVarY 2) (.tup [(.nm 3), (.nm 4)]) cYes (cFStr [(cTxt (cCst (.str " "))), (cFmt (cVar 3)), (cFmt (cVar 4))]) [3, 4])))))))))))
noncomputable def FI_Graph : FnI := ⟨3, 5, B_Graph⟩
/-! _law_cell: slots 0=script 1=k -/
noncomputable def B__law_cell (F : CI.Callee) : Mn Fl :=
    (cSeq (cIfS (cTst (cBin oLt (cVar 1) (cBlt (uD gLen) (cCons (cA (cVar 0)) cNil))))
    (cRet (cBlt (uD gAbs) (cCons (cA (cBlt (uD gInt) (cCons (cA (cBin ixD (cVar 0) (cVar 1))) cNil))) cNil)))
    cPass)
    (cRet (cCst (.int 0))))
noncomputable def FI__law_cell : FnI := ⟨2, 2, B__law_cell⟩
/-! _law_alike: slots 0=told 1=due 2=k -/
noncomputable def B__law_alike (F : CI.Callee) : Mn Fl :=
    (cSeq (cIfS (cTr (cUn (gIsi "tuple") (cVar 1)))
    (cSeq (cIfS (cOr (cNot (cTr (cUn (gIsi "tuple") (cVar 0)))) (cTst (cBin oNe (cBlt (uD gLen) (cCons (cA (cVar 0)) cNil)) (cBlt (uD gLen) (cCons (cA (cVar 1)) cNil)))))
    (cRet (cCst (.bl false)))
    cPass)
    (cSeq (cFor (ciRg1 (cBlt (uD gLen) (cCons (cA (cVar 1)) cNil))) (tNm 2)
    (cIfS (cNot (cTr (cCall F ("_law_alike" : Str) (cCons (cA (cBin ixD (cVar 0) (cVar 2))) (cCons (cA (cBin ixD (cVar 1) (cVar 2))) cNil)))))
    (cRet (cCst (.bl false)))
    cPass))
    (cRet (cCst (.bl true)))))
    cPass)
    (cSeq (cIfS (cTr (cUn (gIsi "str") (cVar 1)))
    (cRet (cAndV (cUn (gIsi "str") (cVar 0)) (cBin oEq (cVar 0) (cVar 1))))
    cPass)
    (cSeq (cIfS (cTr (cUn (gIsi "bool") (cVar 1)))
    (cRet (cAndV (cUn (gIsi "bool") (cVar 0)) (cBin oEq (cVar 0) (cVar 1))))
    cPass)
    (cRet (cAndV (cUn (gIsi "int") (cVar 0)) (cAndV (cNotV (cUn (gIsi "bool") (cVar 0))) (cBin oEq (cVar 0) (cVar 1))))))))
noncomputable def FI__law_alike : FnI := ⟨2, 3, B__law_alike⟩
/-! _law_edge: slots 0=cell 1=k 2=nodes 3=first -/
noncomputable def B__law_edge (F : CI.Callee) : Mn Fl :=
    (cSeq (cSet 3 (cBin oMod (cBlt (uD gInt) (cCons (cA (cBin oAdd (cVar 0) (cVar 1))) cNil)) (cVar 2)))
    (cRet (cTup (cCons (cV (cFrz 3)) (cCons (cV (cBin oMod (cBlt (uD gInt) (cCons (cA (cBin oAdd (cBin oAdd (cBin oAdd (cBin oFdiv (cVar 0) (cVar 2)) (cVar 1)) (cCst (.int 1))) (cBin oFdiv (cVar 1) (cVar 2)))) cNil)) (cVar 2))) cNil)))))
noncomputable def FI__law_edge : FnI := ⟨3, 4, B__law_edge⟩
/-! _law_world: slots 0=script 1=nodes 2=size 3=edges 4=k -/
noncomputable def B__law_world (F : CI.Callee) : Mn Fl :=
    (cSeq (cSet 1 (cBin oAdd (cCst (.int 1)) (cBin oMod (cBlt (uD gInt) (cCons (cA (cBin oAdd (cCall F ("_law_cell" : Str) (cCons (cA (cVar 0)) (cCons (cA (cCst (.int 1))) cNil))) (cCst (.int 2)))) cNil)) (cCst (.int 5)))))
    (cSeq (cSet 2 (cBin oMod (cBlt (uD gInt) (cCons (cA (cBin oAdd (cCall F ("_law_cell" : Str) (cCons (cA (cVar 0)) (cCons (cA (cCst (.int 3))) cNil))) (cCst (.int 4)))) cNil)) (cCst (.int 7))))
    (cSeq (cIfS (cTst (cBin oEq (cBin oMod (cBlt (uD gInt) (cCons (cA (cCall F ("_law_cell" : Str) (cCons (cA (cVar 0)) (cCons (cA (cCst (.int 0))) cNil)))) cNil)) (cCst (.int 8))) (cCst (.int 7))))
    (cSeq (cSet 1 (cBin oAdd (cCst (.int 6)) (cBin oMod (cBlt (uD gInt) (cCons (cA (cCall F ("_law_cell" : Str) (cCons (cA (cVar 0)) (cCons (cA (cCst (.int 1))) cNil)))) cNil)) (cCst (.int 5)))))
    (cSet 2 (cBin oAdd (cCst (.int 9)) (cBin oMod (cBlt (uD gInt) (cCons (cA (cCall F ("_law_cell" : Str) (cCons (cA (cVar 0)) (cCons (cA (cCst (.int 3))) cNil)))) cNil)) (cCst (.int 2))))))
    cPass)
    (cSeq (cSet 3 (cLc (ciRg1 (cVar 2)) (.nm 4) cYes (cCall F ("_law_edge" : Str) (cCons (cA (cCall F ("_law_cell" : Str) (cCons (cA (cVar 0)) (cCons (cA (cBin oAdd (cCst (.int 4)) (cVar 4))) cNil)))) (cCons (cA (cVar 4)) (cCons (cA (cVar 1)) cNil)))) [4]))
    (cRet (cTup (cCons (cV (cFrz 1)) (cCons (cV (cFrz 3)) cNil))))))))
noncomputable def FI__law_world : FnI := ⟨1, 5, B__law_world⟩
/-! _law_drawn_signs: slots 0=cell 1=size 2=left 3=signs 4=k -/
noncomputable def B__law_drawn_signs (F : CI.Callee) : Mn Fl :=
    (cSeq (cSet 2 (cFrz 0))
    (cSeq (cSet 3 (cCst (.str "")))
    (cSeq (cFor (ciRg1 (cVar 1)) (tNm 4)
    (cSeq (cSet 3 (cBin oAdd (cVar 3) (cBin ixD (cCst (.str "+-")) (cBin oMod (cBlt (uD gInt) (cCons (cA (cBin oAdd (cVar 2) (cBin oFdiv (cVar 4) (cCst (.int 2))))) cNil)) (cCst (.int 2))))))
    (cSet 2 (cBin oFdiv (cVar 2) (cCst (.int 2))))))
    (cRet (cMv 3)))))
noncomputable def FI__law_drawn_signs : FnI := ⟨2, 5, B__law_drawn_signs⟩
/-! _law_drawn_order: slots 0=cell 1=size 2=left 3=order 4=rest 5=k 6=pick -/
noncomputable def B__law_drawn_order (F : CI.Callee) : Mn Fl :=
    (cSeq (cSet 2 (cUn gLrg1 (cVar 1)))
    (cSeq (cSet 3 (cLst cNil))
    (cSeq (cSet 4 (cFrz 0))
    (cSeq (cFor (ciRg1 (cVar 1)) (tNm 5)
    (cSeq (cSet 6 (cBin oMod (cBlt (uD gInt) (cCons (cA (cBin oAdd (cVar 4) (cCst (.int 1)))) cNil)) (cBlt (uD gLen) (cCons (cA (cVar 2)) cNil))))
    (cSeq (cApp 3 (cBin ixD (cVar 2) (cVar 6)))
    (cSeq (cSet 2 (cBin oAdd (cSl (cVar 2) cNoPart (cPart (cVar 6))) (cSl (cVar 2) (cPart (cBin oAdd (cVar 6) (cCst (.int 1)))) cNoPart)))
    (cSet 4 (cBin oFdiv (cVar 4) (cCst (.int 10))))))))
    (cRet (cMv 3))))))
noncomputable def FI__law_drawn_order : FnI := ⟨2, 7, B__law_drawn_order⟩
/-! _law_arrows_of: slots 0=edges 1=direction 2=arrows 3=k 4=first 5=second -/
noncomputable def B__law_arrows_of (F : CI.Callee) : Mn Fl :=
    (cSeq (cSet 2 (cLst cNil))
    (cSeq (cFor (ciRg1 (cBlt (uD gLen) (cCons (cA (cVar 0)) cNil))) (tNm 3)
    (cSeq (cSetT (tTup [(tNm 4), (tNm 5)]) (cV (cBin ixD (cVar 0) (cVar 3))))
    (cIfS (cTst (cBin oEq (cBin ixD (cVar 1) (cVar 3)) (cCst (.str "+"))))
    (cApp 2 (cTup (cCons (cV (cFrz 4)) (cCons (cV (cFrz 5)) cNil))))
    (cApp 2 (cTup (cCons (cV (cFrz 5)) (cCons (cV (cFrz 4)) cNil)))))))
    (cRet (cMv 2))))
noncomputable def FI__law_arrows_of : FnI := ⟨2, 6, B__law_arrows_of⟩
/-! _law_along: slots 0=edges 1=order 2=signs 3=first 4=second -/
noncomputable def B__law_along (F : CI.Callee) : Mn Fl :=
    (cSeq (cSet 2 (cCst (.str "")))
    (cSeq (cLock 0 (cFor (ciVarY 0) (tTup [(tNm 3), (tNm 4)])
    (cIfS (cTst (cBin oLt (cML gIndex (cVar 1) (cCons (cA (cVar 3)) cNil)) (cML gIndex (cVar 1) (cCons (cA (cVar 4)) cNil))))
    (cSet 2 (cBin oAdd (cVar 2) (cCst (.str "+"))))
    (cSet 2 (cBin oAdd (cVar 2) (cCst (.str "-")))))))
    (cRet (cMv 2))))
noncomputable def FI__law_along : FnI := ⟨2, 5, B__law_along⟩
/-! _law_ring_of: slots 0=order 1=cell 2=many 3=left 4=edges 5=signs 6=k 7=one 8=two -/
noncomputable def B__law_ring_of (F : CI.Callee) : Mn Fl :=
    (cSeq (cSet 2 (cBin oAdd (cCst (.int 1)) (cBin oMod (cBlt (uD gInt) (cCons (cA (cBin oAdd (cVar 1) (cCst (.int 2)))) cNil)) (cBlt (uD gLen) (cCons (cA (cVar 0)) cNil)))))
    (cSeq (cSet 3 (cBin oFdiv (cVar 1) (cCst (.int 10))))
    (cSeq (cSet 4 (cLst cNil))
    (cSeq (cSet 5 (cCst (.str "")))
    (cSeq (cFor (ciRg1 (cVar 2)) (tNm 6)
    (cSeq (cSet 7 (cBin ixD (cVar 0) (cVar 6)))
    (cSeq (cSet 8 (cBin ixD (cVar 0) (cBin oMod (cBlt (uD gInt) (cCons (cA (cBin oAdd (cVar 6) (cCst (.int 1)))) cNil)) (cVar 2))))
    (cSeq (cIfS (cTst (cBin oEq (cBin oMod (cBlt (uD gInt) (cCons (cA (cVar 3)) cNil)) (cCst (.int 2))) (cCst (.int 1))))
    (cSeq (cApp 4 (cTup (cCons (cV (cFrz 8)) (cCons (cV (cFrz 7)) cNil))))
    (cSet 5 (cBin oAdd (cVar 5) (cCst (.str "-")))))
    (cSeq (cApp 4 (cTup (cCons (cV (cFrz 7)) (cCons (cV (cFrz 8)) cNil))))
    (cSet 5 (cBin oAdd (cVar 5) (cCst (.str "+"))))))
    (cSet 3 (cBin oFdiv (cVar 3) (cCst (.int 2))))))))
    (cRet (cTup (cCons (cV (cFrz 4)) (cCons (cV (cFrz 5)) cNil)))))))))
noncomputable def FI__law_ring_of : FnI := ⟨2, 9, B__law_ring_of⟩
/-! _law_reach_of: slots 0=nodes 1=arrows 2=reach 3=k 4=tail 5=head -/
noncomputable def B__law_reach_of (F : CI.Callee) : Mn Fl :=
    (cSeq (cSet 2 (cLc (ciRg1 (cVar 0)) (.nm 3) cYes (cBin oShl (cCst (.int 1)) (cVar 3)) [3]))
    (cSeq (cFor (ciRg1 (cVar 0)) (tNm 3)
    (cLock 1 (cFor (ciVarY 1) (tTup [(tNm 4), (tNm 5)])
    (cSetT (tSub 2 (cVar 4)) (cV (cBin oOr (cBin ixD (cVar 2) (cVar 4)) (cBin ixD (cVar 2) (cVar 5))))))))
    (cRet (cMv 2))))
noncomputable def FI__law_reach_of : FnI := ⟨2, 6, B__law_reach_of⟩
/-! _law_has_round: slots 0=nodes 1=arrows 2=reach 3=back 4=tail 5=head -/
noncomputable def B__law_has_round (F : CI.Callee) : Mn Fl :=
    (cSeq (cSet 2 (cCall F ("_law_reach_of" : Str) (cCons (cA (cVar 0)) (cCons (cA (cVar 1)) cNil))))
    (cSeq (cLock 1 (cSet 3 (cLc (ciVarY 1) (.tup [(.nm 4), (.nm 5)]) (cTst (cBin oEq (cBin oAnd (cBin oShr (cBin ixD (cVar 2) (cVar 5)) (cVar 4)) (cCst (.int 1))) (cCst (.int 1)))) (cCst (.int 1)) [4, 5])))
    (cRet (cBin oGt (cBlt (uD gLen) (cCons (cA (cVar 3)) cNil)) (cCst (.int 0))))))
noncomputable def FI__law_has_round : FnI := ⟨2, 6, B__law_has_round⟩
/-! _law_is_order: slots 0=nodes 1=arrows 2=row 3=tail 4=head -/
noncomputable def B__law_is_order (F : CI.Callee) : Mn Fl :=
    (cSeq (cIfS (cTst (cBin oNe (cBlt gSortY (cCons (cA (cVar 2)) cNil)) (cUn gLrg1 (cVar 0))))
    (cRet (cCst (.bl false)))
    cPass)
    (cSeq (cLock 1 (cFor (ciVarY 1) (tTup [(tNm 3), (tNm 4)])
    (cIfS (cTst (cBin oGe (cML gIndex (cVar 2) (cCons (cA (cVar 3)) cNil)) (cML gIndex (cVar 2) (cCons (cA (cVar 4)) cNil))))
    (cRet (cCst (.bl false)))
    cPass)))
    (cRet (cCst (.bl true)))))
noncomputable def FI__law_is_order : FnI := ⟨3, 5, B__law_is_order⟩
/-! _law_is_round: slots 0=arrows 1=row 2=tails 3=k 4=follower -/
noncomputable def B__law_is_round (F : CI.Callee) : Mn Fl :=
    (cSeq (cSet 2 (cLst cNil))
    (cSeq (cFor (ciRg1 (cBlt (uD gLen) (cCons (cA (cVar 1)) cNil))) (tNm 3)
    (cIfS (cNot (cTst (cChain oLe oLt (cCst (.int 0)) (cBin ixD (cVar 1) (cVar 3)) (cBlt (uD gLen) (cCons (cA (cVar 0)) cNil)))))
    (cRet (cCst (.bl false)))
    cPass))
    (cSeq (cFor (ciRg1 (cBlt (uD gLen) (cCons (cA (cVar 1)) cNil))) (tNm 3)
    (cSeq (cSet 4 (cBin ixD (cVar 1) (cBin oMod (cBlt (uD gInt) (cCons (cA (cBin oAdd (cVar 3) (cCst (.int 1)))) cNil)) (cBlt (uD gLen) (cCons (cA (cVar 1)) cNil)))))
    (cSeq (cIfS (cTst (cBin oNe (cBin ixD (cBin ixD (cVar 0) (cBin ixD (cVar 1) (cVar 3))) (cCst (.int 1))) (cBin ixD (cBin ixD (cVar 0) (cVar 4)) (cCst (.int 0)))))
    (cRet (cCst (.bl false)))
    cPass)
    (cSeq (cIfS (cTst (cBin oIn (cBin ixD (cBin ixD (cVar 0) (cBin ixD (cVar 1) (cVar 3))) (cCst (.int 0))) (cVar 2)))
    (cRet (cCst (.bl false)))
    cPass)
    (cApp 2 (cBin ixD (cBin ixD (cVar 0) (cBin ixD (cVar 1) (cVar 3))) (cCst (.int 0))))))))
    (cRet (cBin oGt (cBlt (uD gLen) (cCons (cA (cVar 1)) cNil)) (cCst (.int 0)))))))
noncomputable def FI__law_is_round : FnI := ⟨2, 5, B__law_is_round⟩
/-! _law_plain_row: slots 0=told 1=number -/
noncomputable def B__law_plain_row (F : CI.Callee) : Mn Fl :=
    (cSeq (cIfS (cNot (cTr (cUn (gIsi "tuple") (cVar 0))))
    (cRet (cCst (.bl false)))
    cPass)
    (cSeq (cLock 0 (cFor (ciVarY 0) (tNm 1)
    (cIfS (cOr (cNot (cTr (cUn (gIsi "int") (cVar 1)))) (cTr (cUn (gIsi "bool") (cVar 1))))
    (cRet (cCst (.bl false)))
    cPass)))
    (cRet (cCst (.bl true)))))
noncomputable def FI__law_plain_row : FnI := ⟨1, 2, B__law_plain_row⟩
/-! _law_paper: slots 0=graph 1=nodes 2=arrows 3=direction 4=due 5=told 6=row 7=good -/
noncomputable def B__law_paper (F : CI.Callee) : Mn Fl :=
    (cSeq (cSet 4 (cCst (.str "order")))
    (cSeq (cIfS (cTr (cCall F ("_law_has_round" : Str) (cCons (cA (cVar 1)) (cCons (cA (cVar 2)) cNil))))
    (cSet 4 (cCst (.str "round")))
    cPass)
    (cSeq (cSet 5 (cCall F ("order_paper" : Str) (cCons (cA (cVar 0)) (cCons (cA (cFrz 3)) cNil))))
    (cSeq (cIfS (cOr (cNot (cTr (cUn (gIsi "tuple") (cVar 5)))) (cTst (cBin oNe (cBlt (uD gLen) (cCons (cA (cVar 5)) cNil)) (cCst (.int 2)))))
    (cRet (cCst (.bl false)))
    cPass)
    (cSeq (cIfS (cOr (cNot (cTr (cCall F ("_law_alike" : Str) (cCons (cA (cBin ixD (cVar 5) (cCst (.int 0)))) (cCons (cA (cVar 4)) cNil))))) (cNot (cTr (cCall F ("_law_plain_row" : Str) (cCons (cA (cBin ixD (cVar 5) (cCst (.int 1)))) cNil)))))
    (cRet (cCst (.bl false)))
    cPass)
    (cSeq (cSet 6 (cBlt (uD gList) (cCons (cA (cBin ixD (cVar 5) (cCst (.int 1)))) cNil)))
    (cSeq (cIfS (cTst (cBin oEq (cVar 4) (cCst (.str "order"))))
    (cSeq (cSet 7 (cCall F ("_law_is_order" : Str) (cCons (cA (cVar 1)) (cCons (cA (cVar 2)) (cCons (cA (cVar 6)) cNil)))))
    (cRet (cAndV (cMv 7) (cBin oIsB (cCall F ("shows_order" : Str) (cCons (cA (cVar 0)) (cCons (cA (cFrz 3)) (cCons (cA (cBin ixD (cVar 5) (cCst (.int 1)))) cNil)))) (cCst (.bl true))))))
    cPass)
    (cSeq (cSet 7 (cCall F ("_law_is_round" : Str) (cCons (cA (cVar 2)) (cCons (cA (cVar 6)) cNil))))
    (cRet (cAndV (cMv 7) (cBin oIsB (cCall F ("shows_round" : Str) (cCons (cA (cVar 0)) (cCons (cA (cFrz 3)) (cCons (cA (cBin ixD (cVar 5) (cCst (.int 1)))) cNil)))) (cCst (.bl true)))))))))))))
noncomputable def FI__law_paper : FnI := ⟨4, 8, B__law_paper⟩
/-! _law_bent_orders: slots 0=nodes 1=row 2=cell 3=at 4=to 5=swapped 6=double 7=rows 8=odd -/
noncomputable def B__law_bent_orders (F : CI.Callee) : Mn Fl :=
    (cSeq (cSet 3 (cBin oMod (cBlt (uD gInt) (cCons (cA (cVar 2)) cNil)) (cVar 0)))
    (cSeq (cSet 4 (cBin oMod (cBlt (uD gInt) (cCons (cA (cBin oFdiv (cVar 2) (cCst (.int 10)))) cNil)) (cVar 0)))
    (cSeq (cSet 5 (cBlt (uD gList) (cCons (cA (cVar 1)) cNil)))
    (cSeq (cSetT (tSub 5 (cVar 3)) (cV (cBin ixD (cVar 1) (cVar 4))))
    (cSeq (cSetT (tSub 5 (cVar 4)) (cV (cBin ixD (cVar 1) (cVar 3))))
    (cSeq (cSet 6 (cBlt (uD gList) (cCons (cA (cVar 1)) cNil)))
    (cSeq (cSetT (tSub 6 (cVar 3)) (cV (cBin ixD (cVar 1) (cVar 4))))
    (cSeq (cSet 7 (cLst (cCons (cV (cFrz 1)) (cCons (cV (cFrz 5)) (cCons (cV (cFrz 6)) (cCons (cV (cUn gRev (cVar 1))) (cCons (cV (cLst cNil)) cNil)))))))
    (cSeq (cApp 7 (cBin oAdd (cVar 1) (cLst (cCons (cV (cBin ixD (cVar 1) (cVar 3))) cNil))))
    (cSeq (cApp 7 (cBin oAdd (cVar 1) (cLst (cCons (cV (cFrz 0)) cNil))))
    (cSeq (cApp 7 (cBin oAdd (cSl (cVar 1) cNoPart (cPart (cVar 3))) (cSl (cVar 1) (cPart (cBin oAdd (cVar 3) (cCst (.int 1)))) cNoPart)))
    (cSeq (cFor (ciSeq (cLst (cCons (cV (cFrz 0)) (cCons (cV (cUn oNeg (cCst (.int 1)))) (cCons (cV (cBin oPow (cCst (.int 10)) (cCst (.int 20)))) cNil))))) (tNm 8)
    (cApp 7 (cBin oAdd (cBin oAdd (cSl (cVar 1) cNoPart (cPart (cVar 3))) (cLst (cCons (cV (cFrz 8)) cNil))) (cSl (cVar 1) (cPart (cBin oAdd (cVar 3) (cCst (.int 1)))) cNoPart))))
    (cRet (cMv 7))))))))))))))
noncomputable def FI__law_bent_orders : FnI := ⟨3, 9, B__law_bent_orders⟩
/-! _law_bent_rounds: slots 0=size 1=ring 2=cell 3=many 4=at 5=to 6=other 7=swapped 8=rows -/
noncomputable def B__law_bent_rounds (F : CI.Callee) : Mn Fl :=
    (cSeq (cSet 3 (cBlt (uD gLen) (cCons (cA (cVar 1)) cNil)))
    (cSeq (cSet 4 (cBin oMod (cBlt (uD gInt) (cCons (cA (cVar 2)) cNil)) (cVar 3)))
    (cSeq (cSet 5 (cBin oMod (cBlt (uD gInt) (cCons (cA (cBin oFdiv (cVar 2) (cCst (.int 10)))) cNil)) (cVar 3)))
    (cSeq (cSet 6 (cBin oMod (cBlt (uD gInt) (cCons (cA (cBin oFdiv (cVar 2) (cCst (.int 100)))) cNil)) (cVar 0)))
    (cSeq (cSet 7 (cBlt (uD gList) (cCons (cA (cVar 1)) cNil)))
    (cSeq (cSetT (tSub 7 (cVar 4)) (cV (cBin ixD (cVar 1) (cVar 5))))
    (cSeq (cSetT (tSub 7 (cVar 5)) (cV (cBin ixD (cVar 1) (cVar 4))))
    (cSeq (cSet 8 (cLst (cCons (cV (cFrz 1)) (cCons (cV (cUn gRev (cVar 1))) (cCons (cV (cBin oAdd (cVar 1) (cVar 1))) (cCons (cV (cFrz 7)) (cCons (cV (cLst cNil)) cNil)))))))
    (cSeq (cApp 8 (cBin oAdd (cSl (cVar 1) (cPart (cVar 4)) cNoPart) (cSl (cVar 1) cNoPart (cPart (cVar 4)))))
    (cSeq (cApp 8 (cBin oAdd (cSl (cVar 1) cNoPart (cPart (cVar 4))) (cSl (cVar 1) (cPart (cBin oAdd (cVar 4) (cCst (.int 1)))) cNoPart)))
    (cSeq (cApp 8 (cBin oAdd (cBin oAdd (cSl (cVar 1) cNoPart (cPart (cVar 4))) (cLst (cCons (cV (cFrz 6)) cNil))) (cSl (cVar 1) (cPart (cBin oAdd (cVar 4) (cCst (.int 1)))) cNoPart)))
    (cSeq (cApp 8 (cBin oAdd (cVar 1) (cLst (cCons (cV (cBin ixD (cVar 1) (cVar 4))) cNil))))
    (cSeq (cApp 8 (cLst (cCons (cV (cFrz 6)) cNil)))
    (cSeq (cApp 8 (cLst (cCons (cV (cBin ixD (cVar 1) (cVar 4))) (cCons (cV (cFrz 6)) cNil))))
    (cRet (cMv 8))))))))))))))))
noncomputable def FI__law_bent_rounds : FnI := ⟨3, 9, B__law_bent_rounds⟩
/-! _law_orders_judged: slots 0=graph 1=nodes 2=arrows 3=direction 4=rows 5=row 6=due 7=given 8=told -/
noncomputable def B__law_orders_judged (F : CI.Callee) : Mn Fl :=
    (cSeq (cLock 4 (cFor (ciVarY 4) (tNm 5)
    (cSeq (cSet 6 (cCall F ("_law_is_order" : Str) (cCons (cA (cVar 1)) (cCons (cA (cVar 2)) (cCons (cA (cVar 5)) cNil)))))
    (cSeq (cSet 7 (cBlt (uD gList) (cCons (cA (cVar 5)) cNil)))
    (cSeq (cSet 8 (cCall F ("shows_order" : Str) (cCons (cA (cVar 0)) (cCons (cA (cFrz 3)) (cCons (cA (cVar 7)) cNil)))))
    (cSeq (cIfS (cOr (cNot (cTr (cCall F ("_law_alike" : Str) (cCons (cA (cVar 8)) (cCons (cA (cVar 6)) cNil))))) (cTst (cBin oNe (cVar 7) (cVar 5))))
    (cRet (cCst (.bl false)))
    cPass)
    (cIfS (cNot (cTr (cCall F ("_law_alike" : Str) (cCons (cA (cCall F ("shows_order" : Str) (cCons (cA (cVar 0)) (cCons (cA (cFrz 3)) (cCons (cA (cBlt (uD gTuple) (cCons (cA (cVar 5)) cNil))) cNil))))) (cCons (cA (cVar 6)) cNil)))))
    (cRet (cCst (.bl false)))
    cPass)))))))
    (cRet (cCst (.bl true))))
noncomputable def FI__law_orders_judged : FnI := ⟨5, 9, B__law_orders_judged⟩
/-! _law_rounds_judged: slots 0=graph 1=arrows 2=direction 3=rows 4=row 5=due 6=given 7=told -/
noncomputable def B__law_rounds_judged (F : CI.Callee) : Mn Fl :=
    (cSeq (cLock 3 (cFor (ciVarY 3) (tNm 4)
    (cSeq (cSet 5 (cCall F ("_law_is_round" : Str) (cCons (cA (cVar 1)) (cCons (cA (cVar 4)) cNil))))
    (cSeq (cSet 6 (cBlt (uD gList) (cCons (cA (cVar 4)) cNil)))
    (cSeq (cSet 7 (cCall F ("shows_round" : Str) (cCons (cA (cVar 0)) (cCons (cA (cFrz 2)) (cCons (cA (cVar 6)) cNil)))))
    (cSeq (cIfS (cOr (cNot (cTr (cCall F ("_law_alike" : Str) (cCons (cA (cVar 7)) (cCons (cA (cVar 5)) cNil))))) (cTst (cBin oNe (cVar 6) (cVar 4))))
    (cRet (cCst (.bl false)))
    cPass)
    (cIfS (cNot (cTr (cCall F ("_law_alike" : Str) (cCons (cA (cCall F ("shows_round" : Str) (cCons (cA (cVar 0)) (cCons (cA (cFrz 2)) (cCons (cA (cBlt (uD gTuple) (cCons (cA (cVar 4)) cNil))) cNil))))) (cCons (cA (cVar 5)) cNil)))))
    (cRet (cCst (.bl false)))
    cPass)))))))
    (cRet (cCst (.bl true))))
noncomputable def FI__law_rounds_judged : FnI := ⟨4, 8, B__law_rounds_judged⟩
/-! _law_called: slots 0=door 1=graph 2=direction 3=row -/
noncomputable def B__law_called (F : CI.Callee) : Mn Fl :=
    (cSeq (cIfS (cTst (cBin oEq (cVar 0) (cCst (.int 0))))
    (cRet (cCall F ("order_paper" : Str) (cCons (cA (cVar 1)) (cCons (cA (cFrz 2)) cNil))))
    cPass)
    (cSeq (cIfS (cTst (cBin oEq (cVar 0) (cCst (.int 1))))
    (cRet (cCall F ("shows_order" : Str) (cCons (cA (cVar 1)) (cCons (cA (cFrz 2)) (cCons (cA (cVar 3)) cNil)))))
    cPass)
    (cRet (cCall F ("shows_round" : Str) (cCons (cA (cVar 1)) (cCons (cA (cFrz 2)) (cCons (cA (cVar 3)) cNil)))))))
noncomputable def FI__law_called : FnI := ⟨4, 4, B__law_called⟩
/-! _law_fate: slots 0=door 1=graph 2=direction 3=row 4=e 5=signs -/
noncomputable def B__law_fate (F : CI.Callee) : Mn Fl :=
    (cSeq (cTry (cExpr (cCall F ("_law_called" : Str) (cCons (cA (cVar 0)) (cCons (cA (cVar 1)) (cCons (cA (cFrz 2)) (cCons (cA (cVar 3)) cNil)))))) su_StrikejoinError 4
    (cSeq (cSet 5 (cIsX 4 su_BadSigns))
    (cSeq (cIfS (cOr (cTst (cBin oEq (cVar 5) (cIsX 4 su_BadElement))) (cNot (cTr (cIsX 4 su_ValueError))))
    (cRet (cTup (cCons (cV (cCst (.str "other"))) cNil)))
    cPass)
    (cSeq (cIfS (cTr (cVar 5))
    (cRet (cTup (cCons (cV (cCst (.str "signs"))) (cCons (cV (cXF xs_signs 4 ("signs" : Str))) cNil))))
    cPass)
    (cRet (cTup (cCons (cV (cCst (.str "edge"))) (cCons (cV (cXF xs_element 4 ("element" : Str))) cNil))))))))
    (cRet (cTup (cCons (cV (cCst (.str "told"))) cNil))))
noncomputable def FI__law_fate : FnI := ⟨4, 6, B__law_fate⟩
/-! _law_refused: slots 0=graph 1=size 2=direction 3=ring 4=cell 5=at 6=sign 7=bent 8=texts 9=odd 10=spot 11=row 12=text 13=door -/
noncomputable def B__law_refused (F : CI.Callee) : Mn Fl :=
    (cSeq (cSet 5 (cBin oMod (cBlt (uD gInt) (cCons (cA (cVar 4)) cNil)) (cBlt (bD gMax2) (cCons (cA (cCst (.int 1))) (cCons (cA (cVar 1)) cNil)))))
    (cSeq (cSet 6 (cBin ixD (cCst (.str "*,. x0=")) (cBin oMod (cBlt (uD gInt) (cCons (cA (cBin oFdiv (cVar 4) (cCst (.int 10)))) cNil)) (cCst (.int 7)))))
    (cSeq (cSet 7 (cBin oAdd (cBin oAdd (cSl (cVar 2) cNoPart (cPart (cVar 5))) (cVar 6)) (cSl (cVar 2) (cPart (cBin oAdd (cVar 5) (cCst (.int 1)))) cNoPart)))
    (cSeq (cSet 8 (cLst (cCons (cV (cBin oAdd (cVar 2) (cCst (.str "+")))) (cCons (cV (cFrz 7)) cNil))))
    (cSeq (cIfS (cTst (cBin oGt (cVar 1) (cCst (.int 0))))
    (cApp 8 (cSl (cVar 2) (cPart (cCst (.int 1))) cNoPart))
    cPass)
    (cSeq (cSet 9 (cBin ixD (cLst (cCons (cV (cFrz 1)) (cCons (cV (cUn oNeg (cCst (.int 1)))) (cCons (cV (cBin oPow (cCst (.int 10)) (cCst (.int 20)))) (cCons (cV (cBin oSub (cUn oNeg (cVar 1)) (cCst (.int 1)))) cNil))))) (cBin oMod (cBlt (uD gInt) (cCons (cA (cBin oFdiv (cVar 4) (cCst (.int 70)))) cNil)) (cCst (.int 4)))))
    (cSeq (cSet 10 (cBin oMod (cBlt (uD gInt) (cCons (cA (cBin oFdiv (cVar 4) (cCst (.int 280)))) cNil)) (cBin oAdd (cBlt (uD gLen) (cCons (cA (cVar 3)) cNil)) (cCst (.int 1)))))
    (cSeq (cSet 11 (cBin oAdd (cBin oAdd (cBin oAdd (cSl (cVar 3) cNoPart (cPart (cVar 10))) (cLst (cCons (cV (cFrz 9)) cNil))) (cSl (cVar 3) (cPart (cVar 10)) cNoPart)) (cLst (cCons (cV (cBin oAdd (cVar 1) (cCst (.int 7)))) cNil))))
    (cSeq (cLock 8 (cFor (ciVarY 8) (tNm 12)
    (cFor (ciRg1 (cCst (.int 3))) (tNm 13)
    (cIfS (cNot (cTr (cCall F ("_law_alike" : Str) (cCons (cA (cCall F ("_law_fate" : Str) (cCons (cA (cVar 13)) (cCons (cA (cVar 0)) (cCons (cA (cFrz 12)) (cCons (cA (cVar 11)) cNil)))))) (cCons (cA (cTup (cCons (cV (cCst (.str "signs"))) (cCons (cV (cFrz 12)) cNil)))) cNil)))))
    (cRet (cCst (.bl false)))
    cPass))))
    (cSeq (cIfS (cNot (cTr (cCall F ("_law_alike" : Str) (cCons (cA (cCall F ("_law_fate" : Str) (cCons (cA (cCst (.int 2))) (cCons (cA (cVar 0)) (cCons (cA (cFrz 2)) (cCons (cA (cVar 11)) cNil)))))) (cCons (cA (cTup (cCons (cV (cCst (.str "edge"))) (cCons (cV (cFrz 9)) cNil)))) cNil)))))
    (cRet (cCst (.bl false)))
    cPass)
    (cRet (cCall F ("_law_alike" : Str) (cCons (cA (cCall F ("_law_fate" : Str) (cCons (cA (cCst (.int 2))) (cCons (cA (cVar 0)) (cCons (cA (cFrz 2)) (cCons (cA (cVar 3)) cNil)))))) (cCons (cA (cTup (cCons (cV (cCst (.str "told"))) cNil))) cNil))))))))))))))
noncomputable def FI__law_refused : FnI := ⟨5, 14, B__law_refused⟩
/-! _law_nothing: slots 0=graph -/
noncomputable def B__law_nothing (F : CI.Callee) : Mn Fl :=
    (cSeq (cSet 0 (cCall F ("Graph" : Str) (cCons (cA (cCst (.int 0))) (cCons (cA (cLst cNil)) cNil))))
    (cSeq (cIfS (cNot (cTr (cCall F ("_law_alike" : Str) (cCons (cA (cCall F ("order_paper" : Str) (cCons (cA (cVar 0)) (cCons (cA (cCst (.str ""))) cNil)))) (cCons (cA (cTup (cCons (cV (cCst (.str "order"))) (cCons (cV (cTup cNil)) cNil)))) cNil)))))
    (cRet (cCst (.bl false)))
    cPass)
    (cSeq (cIfS (cOr (cTst (cBin oNotB (cCall F ("shows_order" : Str) (cCons (cA (cVar 0)) (cCons (cA (cCst (.str ""))) (cCons (cA (cLst cNil)) cNil)))) (cCst (.bl true)))) (cTst (cBin oNotB (cCall F ("shows_order" : Str) (cCons (cA (cVar 0)) (cCons (cA (cCst (.str ""))) (cCons (cA (cLst (cCons (cV (cCst (.int 0))) cNil))) cNil)))) (cCst (.bl false)))))
    (cRet (cCst (.bl false)))
    cPass)
    (cRet (cBin oIsB (cCall F ("shows_round" : Str) (cCons (cA (cVar 0)) (cCons (cA (cCst (.str ""))) (cCons (cA (cLst cNil)) cNil)))) (cCst (.bl false)))))))
noncomputable def FI__law_nothing : FnI := ⟨0, 1, B__law_nothing⟩
/-! law: slots 0=script 1=nodes 2=edges 3=graph 4=direction 5=arrows 6=order 7=rows 8=singles 9=plain 10=web 11=more 12=signs 13=ring 14=both 15=looped 16=bent 17=cell 18=k 19=edge -/
noncomputable def B_law (F : CI.Callee) : Mn Fl :=
    (cSeq (cSetT (tTup [(tNm 1), (tNm 2)]) (cV (cCall F ("_law_world" : Str) (cCons (cA (cVar 0)) cNil))))
    (cSeq (cSet 3 (cCall F ("Graph" : Str) (cCons (cA (cFrz 1)) (cCons (cA (cVar 2)) cNil))))
    (cSeq (cSet 4 (cCall F ("_law_drawn_signs" : Str) (cCons (cA (cCall F ("_law_cell" : Str) (cCons (cA (cVar 0)) (cCons (cA (cCst (.int 14))) cNil)))) (cCons (cA (cBlt (uD gLen) (cCons (cA (cVar 2)) cNil))) cNil))))
    (cSeq (cSet 5 (cCall F ("_law_arrows_of" : Str) (cCons (cA (cVar 2)) (cCons (cA (cVar 4)) cNil))))
    (cSeq (cSet 6 (cCall F ("_law_drawn_order" : Str) (cCons (cA (cCall F ("_law_cell" : Str) (cCons (cA (cVar 0)) (cCons (cA (cCst (.int 15))) cNil)))) (cCons (cA (cVar 1)) cNil))))
    (cSeq (cSet 7 (cCall F ("_law_bent_orders" : Str) (cCons (cA (cFrz 1)) (cCons (cA (cFrz 6)) (cCons (cA (cCall F ("_law_cell" : Str) (cCons (cA (cVar 0)) (cCons (cA (cCst (.int 17))) cNil)))) cNil)))))
    (cSeq (cIfS (cNot (cTr (cCall F ("_law_paper" : Str) (cCons (cA (cVar 3)) (cCons (cA (cVar 1)) (cCons (cA (cVar 5)) (cCons (cA (cFrz 4)) cNil)))))))
    (cRet (cCst (.bl false)))
    cPass)
    (cSeq (cIfS (cNot (cTr (cCall F ("_law_orders_judged" : Str) (cCons (cA (cVar 3)) (cCons (cA (cVar 1)) (cCons (cA (cVar 5)) (cCons (cA (cFrz 4)) (cCons (cA (cVar 7)) cNil))))))))
    (cRet (cCst (.bl false)))
    cPass)
    (cSeq (cSet 8 (cLc (ciRg1 (cBlt (uD gLen) (cCons (cA (cVar 2)) cNil))) (.nm 18) cYes (cLst (cCons (cV (cFrz 18)) cNil)) [18]))
    (cSeq (cIfS (cNot (cTr (cCall F ("_law_rounds_judged" : Str) (cCons (cA (cVar 3)) (cCons (cA (cVar 5)) (cCons (cA (cFrz 4)) (cCons (cA (cVar 8)) cNil)))))))
    (cRet (cCst (.bl false)))
    cPass)
    (cSeq (cIfS (cNot (cTr (cCall F ("_law_refused" : Str) (cCons (cA (cVar 3)) (cCons (cA (cBlt (uD gLen) (cCons (cA (cVar 2)) cNil))) (cCons (cA (cFrz 4)) (cCons (cA (cLst cNil)) (cCons (cA (cCall F ("_law_cell" : Str) (cCons (cA (cVar 0)) (cCons (cA (cCst (.int 18))) cNil)))) cNil))))))))
    (cRet (cCst (.bl false)))
    cPass)
    (cSeq (cLock 2 (cSet 9 (cLc (ciVarY 2) (.nm 19) (cTst (cBin oNe (cBin ixD (cVar 19) (cCst (.int 0))) (cBin ixD (cVar 19) (cCst (.int 1))))) (cFrz 19) [19])))
    (cSeq (cSet 10 (cCall F ("Graph" : Str) (cCons (cA (cFrz 1)) (cCons (cA (cVar 9)) cNil))))
    (cSeq (cSet 4 (cCall F ("_law_along" : Str) (cCons (cA (cVar 9)) (cCons (cA (cVar 6)) cNil))))
    (cSeq (cSet 5 (cCall F ("_law_arrows_of" : Str) (cCons (cA (cVar 9)) (cCons (cA (cVar 4)) cNil))))
    (cSeq (cIfS (cNot (cTr (cCall F ("_law_paper" : Str) (cCons (cA (cVar 10)) (cCons (cA (cVar 1)) (cCons (cA (cVar 5)) (cCons (cA (cFrz 4)) cNil)))))))
    (cRet (cCst (.bl false)))
    cPass)
    (cSeq (cIfS (cNot (cTr (cCall F ("_law_orders_judged" : Str) (cCons (cA (cVar 10)) (cCons (cA (cVar 1)) (cCons (cA (cVar 5)) (cCons (cA (cFrz 4)) (cCons (cA (cVar 7)) cNil))))))))
    (cRet (cCst (.bl false)))
    cPass)
    (cSeq (cSetT (tTup [(tNm 11), (tNm 12)]) (cV (cCall F ("_law_ring_of" : Str) (cCons (cA (cVar 6)) (cCons (cA (cCall F ("_law_cell" : Str) (cCons (cA (cVar 0)) (cCons (cA (cCst (.int 16))) cNil)))) cNil)))))
    (cSeq (cSet 9 (cSl (cVar 9) cNoPart (cPart (cBin oSub (cCst (.int 10)) (cBlt (uD gLen) (cCons (cA (cVar 11)) cNil))))))
    (cSeq (cSet 4 (cSl (cVar 4) cNoPart (cPart (cBlt (uD gLen) (cCons (cA (cVar 9)) cNil)))))
    (cSeq (cSet 13 (cLc (ciRg1 (cBlt (uD gLen) (cCons (cA (cVar 11)) cNil))) (.nm 18) cYes (cBin oAdd (cBlt (uD gLen) (cCons (cA (cVar 9)) cNil)) (cVar 18)) [18]))
    (cSeq (cSet 14 (cBin oAdd (cVar 9) (cVar 11)))
    (cSeq (cSet 4 (cBin oAdd (cVar 4) (cVar 12)))
    (cSeq (cIfS (cTst (cBin oEq (cBin oMod (cBlt (uD gInt) (cCons (cA (cBin oFdiv (cCall F ("_law_cell" : Str) (cCons (cA (cVar 0)) (cCons (cA (cCst (.int 17))) cNil))) (cCst (.int 1000)))) cNil)) (cCst (.int 2))) (cCst (.int 1))))
    (cSeq (cSet 13 (cUn gLrg1 (cBlt (uD gLen) (cCons (cA (cVar 11)) cNil))))
    (cSeq (cSet 14 (cBin oAdd (cVar 11) (cVar 9)))
    (cSet 4 (cBin oAdd (cVar 12) (cSl (cVar 4) cNoPart (cPart (cBlt (uD gLen) (cCons (cA (cVar 9)) cNil))))))))
    cPass)
    (cSeq (cSet 15 (cCall F ("Graph" : Str) (cCons (cA (cFrz 1)) (cCons (cA (cVar 14)) cNil))))
    (cSeq (cSet 5 (cCall F ("_law_arrows_of" : Str) (cCons (cA (cVar 14)) (cCons (cA (cVar 4)) cNil))))
    (cSeq (cIfS (cNot (cTr (cCall F ("_law_paper" : Str) (cCons (cA (cVar 15)) (cCons (cA (cVar 1)) (cCons (cA (cVar 5)) (cCons (cA (cFrz 4)) cNil)))))))
    (cRet (cCst (.bl false)))
    cPass)
    (cSeq (cSet 16 (cCall F ("_law_bent_rounds" : Str) (cCons (cA (cBlt (uD gLen) (cCons (cA (cVar 14)) cNil))) (cCons (cA (cFrz 13)) (cCons (cA (cCall F ("_law_cell" : Str) (cCons (cA (cVar 0)) (cCons (cA (cCst (.int 19))) cNil)))) cNil)))))
    (cSeq (cIfS (cNot (cTr (cCall F ("_law_rounds_judged" : Str) (cCons (cA (cVar 15)) (cCons (cA (cVar 5)) (cCons (cA (cFrz 4)) (cCons (cA (cVar 16)) cNil)))))))
    (cRet (cCst (.bl false)))
    cPass)
    (cSeq (cIfS (cNot (cTr (cCall F ("_law_orders_judged" : Str) (cCons (cA (cVar 15)) (cCons (cA (cVar 1)) (cCons (cA (cVar 5)) (cCons (cA (cFrz 4)) (cCons (cA (cVar 7)) cNil))))))))
    (cRet (cCst (.bl false)))
    cPass)
    (cSeq (cSet 17 (cCall F ("_law_cell" : Str) (cCons (cA (cVar 0)) (cCons (cA (cCst (.int 20))) cNil))))
    (cSeq (cIfS (cNot (cTr (cCall F ("_law_refused" : Str) (cCons (cA (cVar 15)) (cCons (cA (cBlt (uD gLen) (cCons (cA (cVar 14)) cNil))) (cCons (cA (cFrz 4)) (cCons (cA (cVar 13)) (cCons (cA (cVar 17)) cNil))))))))
    (cRet (cCst (.bl false)))
    cPass)
    (cRet (cCall F ("_law_nothing" : Str) cNil))))))))))))))))))))))))))))))))))
noncomputable def FI_law : FnI := ⟨1, 20, B_law⟩
noncomputable def tb (x : Str) : Option Ent :=
  if x = ("check_signs" : Str) then some (.fn FI_check_signs) else
  if x = ("arrows_of" : Str) then some (.fn FI_arrows_of) else
  if x = ("_round_within" : Str) then some (.fn FI__round_within) else
  if x = ("order_paper" : Str) then some (.fn FI_order_paper) else
  if x = ("shows_order" : Str) then some (.fn FI_shows_order) else
  if x = ("shows_round" : Str) then some (.fn FI_shows_round) else
  if x = ("Graph" : Str) then some (.init FI_Graph) else
  if x = ("_law_cell" : Str) then some (.fn FI__law_cell) else
  if x = ("_law_alike" : Str) then some (.fn FI__law_alike) else
  if x = ("_law_edge" : Str) then some (.fn FI__law_edge) else
  if x = ("_law_world" : Str) then some (.fn FI__law_world) else
  if x = ("_law_drawn_signs" : Str) then some (.fn FI__law_drawn_signs) else
  if x = ("_law_drawn_order" : Str) then some (.fn FI__law_drawn_order) else
  if x = ("_law_arrows_of" : Str) then some (.fn FI__law_arrows_of) else
  if x = ("_law_along" : Str) then some (.fn FI__law_along) else
  if x = ("_law_ring_of" : Str) then some (.fn FI__law_ring_of) else
  if x = ("_law_reach_of" : Str) then some (.fn FI__law_reach_of) else
  if x = ("_law_has_round" : Str) then some (.fn FI__law_has_round) else
  if x = ("_law_is_order" : Str) then some (.fn FI__law_is_order) else
  if x = ("_law_is_round" : Str) then some (.fn FI__law_is_round) else
  if x = ("_law_plain_row" : Str) then some (.fn FI__law_plain_row) else
  if x = ("_law_paper" : Str) then some (.fn FI__law_paper) else
  if x = ("_law_bent_orders" : Str) then some (.fn FI__law_bent_orders) else
  if x = ("_law_bent_rounds" : Str) then some (.fn FI__law_bent_rounds) else
  if x = ("_law_orders_judged" : Str) then some (.fn FI__law_orders_judged) else
  if x = ("_law_rounds_judged" : Str) then some (.fn FI__law_rounds_judged) else
  if x = ("_law_called" : Str) then some (.fn FI__law_called) else
  if x = ("_law_fate" : Str) then some (.fn FI__law_fate) else
  if x = ("_law_refused" : Str) then some (.fn FI__law_refused) else
  if x = ("_law_nothing" : Str) then some (.fn FI__law_nothing) else
  if x = ("law" : Str) then some (.fn FI_law) else
  none
theorem tb_check_signs : tb ("check_signs" : Str) = some (.fn FI_check_signs) := by unfold tb; repeat (first | rw [if_pos rfl] | rw [if_neg (by decide +kernel)])
theorem tb_arrows_of : tb ("arrows_of" : Str) = some (.fn FI_arrows_of) := by unfold tb; repeat (first | rw [if_pos rfl] | rw [if_neg (by decide +kernel)])
theorem tb__round_within : tb ("_round_within" : Str) = some (.fn FI__round_within) := by unfold tb; repeat (first | rw [if_pos rfl] | rw [if_neg (by decide +kernel)])
theorem tb_order_paper : tb ("order_paper" : Str) = some (.fn FI_order_paper) := by unfold tb; repeat (first | rw [if_pos rfl] | rw [if_neg (by decide +kernel)])
theorem tb_shows_order : tb ("shows_order" : Str) = some (.fn FI_shows_order) := by unfold tb; repeat (first | rw [if_pos rfl] | rw [if_neg (by decide +kernel)])
theorem tb_shows_round : tb ("shows_round" : Str) = some (.fn FI_shows_round) := by unfold tb; repeat (first | rw [if_pos rfl] | rw [if_neg (by decide +kernel)])
theorem tb_Graph : tb ("Graph" : Str) = some (.init FI_Graph) := by unfold tb; repeat (first | rw [if_pos rfl] | rw [if_neg (by decide +kernel)])
theorem tb__law_cell : tb ("_law_cell" : Str) = some (.fn FI__law_cell) := by unfold tb; repeat (first | rw [if_pos rfl] | rw [if_neg (by decide +kernel)])
theorem tb__law_alike : tb ("_law_alike" : Str) = some (.fn FI__law_alike) := by unfold tb; repeat (first | rw [if_pos rfl] | rw [if_neg (by decide +kernel)])
theorem tb__law_edge : tb ("_law_edge" : Str) = some (.fn FI__law_edge) := by unfold tb; repeat (first | rw [if_pos rfl] | rw [if_neg (by decide +kernel)])
theorem tb__law_world : tb ("_law_world" : Str) = some (.fn FI__law_world) := by unfold tb; repeat (first | rw [if_pos rfl] | rw [if_neg (by decide +kernel)])
theorem tb__law_drawn_signs : tb ("_law_drawn_signs" : Str) = some (.fn FI__law_drawn_signs) := by unfold tb; repeat (first | rw [if_pos rfl] | rw [if_neg (by decide +kernel)])
theorem tb__law_drawn_order : tb ("_law_drawn_order" : Str) = some (.fn FI__law_drawn_order) := by unfold tb; repeat (first | rw [if_pos rfl] | rw [if_neg (by decide +kernel)])
theorem tb__law_arrows_of : tb ("_law_arrows_of" : Str) = some (.fn FI__law_arrows_of) := by unfold tb; repeat (first | rw [if_pos rfl] | rw [if_neg (by decide +kernel)])
theorem tb__law_along : tb ("_law_along" : Str) = some (.fn FI__law_along) := by unfold tb; repeat (first | rw [if_pos rfl] | rw [if_neg (by decide +kernel)])
theorem tb__law_ring_of : tb ("_law_ring_of" : Str) = some (.fn FI__law_ring_of) := by unfold tb; repeat (first | rw [if_pos rfl] | rw [if_neg (by decide +kernel)])
theorem tb__law_reach_of : tb ("_law_reach_of" : Str) = some (.fn FI__law_reach_of) := by unfold tb; repeat (first | rw [if_pos rfl] | rw [if_neg (by decide +kernel)])
theorem tb__law_has_round : tb ("_law_has_round" : Str) = some (.fn FI__law_has_round) := by unfold tb; repeat (first | rw [if_pos rfl] | rw [if_neg (by decide +kernel)])
theorem tb__law_is_order : tb ("_law_is_order" : Str) = some (.fn FI__law_is_order) := by unfold tb; repeat (first | rw [if_pos rfl] | rw [if_neg (by decide +kernel)])
theorem tb__law_is_round : tb ("_law_is_round" : Str) = some (.fn FI__law_is_round) := by unfold tb; repeat (first | rw [if_pos rfl] | rw [if_neg (by decide +kernel)])
theorem tb__law_plain_row : tb ("_law_plain_row" : Str) = some (.fn FI__law_plain_row) := by unfold tb; repeat (first | rw [if_pos rfl] | rw [if_neg (by decide +kernel)])
theorem tb__law_paper : tb ("_law_paper" : Str) = some (.fn FI__law_paper) := by unfold tb; repeat (first | rw [if_pos rfl] | rw [if_neg (by decide +kernel)])
theorem tb__law_bent_orders : tb ("_law_bent_orders" : Str) = some (.fn FI__law_bent_orders) := by unfold tb; repeat (first | rw [if_pos rfl] | rw [if_neg (by decide +kernel)])
theorem tb__law_bent_rounds : tb ("_law_bent_rounds" : Str) = some (.fn FI__law_bent_rounds) := by unfold tb; repeat (first | rw [if_pos rfl] | rw [if_neg (by decide +kernel)])
theorem tb__law_orders_judged : tb ("_law_orders_judged" : Str) = some (.fn FI__law_orders_judged) := by unfold tb; repeat (first | rw [if_pos rfl] | rw [if_neg (by decide +kernel)])
theorem tb__law_rounds_judged : tb ("_law_rounds_judged" : Str) = some (.fn FI__law_rounds_judged) := by unfold tb; repeat (first | rw [if_pos rfl] | rw [if_neg (by decide +kernel)])
theorem tb__law_called : tb ("_law_called" : Str) = some (.fn FI__law_called) := by unfold tb; repeat (first | rw [if_pos rfl] | rw [if_neg (by decide +kernel)])
theorem tb__law_fate : tb ("_law_fate" : Str) = some (.fn FI__law_fate) := by unfold tb; repeat (first | rw [if_pos rfl] | rw [if_neg (by decide +kernel)])
theorem tb__law_refused : tb ("_law_refused" : Str) = some (.fn FI__law_refused) := by unfold tb; repeat (first | rw [if_pos rfl] | rw [if_neg (by decide +kernel)])
theorem tb__law_nothing : tb ("_law_nothing" : Str) = some (.fn FI__law_nothing) := by unfold tb; repeat (first | rw [if_pos rfl] | rw [if_neg (by decide +kernel)])
theorem tb_law : tb ("law" : Str) = some (.fn FI_law) := by unfold tb; repeat (first | rw [if_pos rfl] | rw [if_neg (by decide +kernel)])
structure Fx (P : Program) (w : World) (K : PySem.W.Frag) (mg : Str → Option Value) (base : Heap) (n : Nat) : Prop where
  c__law_world : ∀ A, Room (2 * (n + 1) + 1) A → COk ⟨P, w, K, mg, base, A⟩ ("_law_world" : Str) (callF tb n ("_law_world" : Str)) 1
  m_Graph : ∀ A, Room (2 * (n + 1) + 1) A → MOk ⟨P, w, K, mg, base, A⟩ ("Graph" : Str) (callF tb n ("Graph" : Str)) 2
  b_len : mg ("len" : Str) = none
  c__law_cell : ∀ A, Room (2 * (n + 1) + 1) A → COk ⟨P, w, K, mg, base, A⟩ ("_law_cell" : Str) (callF tb n ("_law_cell" : Str)) 2
  c__law_drawn_signs : ∀ A, Room (2 * (n + 1) + 1) A → COk ⟨P, w, K, mg, base, A⟩ ("_law_drawn_signs" : Str) (callF tb n ("_law_drawn_signs" : Str)) 2
  c__law_arrows_of : ∀ A, Room (2 * (n + 1) + 1) A → COk ⟨P, w, K, mg, base, A⟩ ("_law_arrows_of" : Str) (callF tb n ("_law_arrows_of" : Str)) 2
  c__law_drawn_order : ∀ A, Room (2 * (n + 1) + 1) A → COk ⟨P, w, K, mg, base, A⟩ ("_law_drawn_order" : Str) (callF tb n ("_law_drawn_order" : Str)) 2
  c__law_bent_orders : ∀ A, Room (2 * (n + 1) + 1) A → COk ⟨P, w, K, mg, base, A⟩ ("_law_bent_orders" : Str) (callF tb n ("_law_bent_orders" : Str)) 3
  c__law_paper : ∀ A, Room (2 * (n + 1) + 1) A → COk ⟨P, w, K, mg, base, A⟩ ("_law_paper" : Str) (callF tb n ("_law_paper" : Str)) 4
  c__law_orders_judged : ∀ A, Room (2 * (n + 1) + 1) A → COk ⟨P, w, K, mg, base, A⟩ ("_law_orders_judged" : Str) (callF tb n ("_law_orders_judged" : Str)) 5
  b_range : mg ("range" : Str) = none
  c__law_rounds_judged : ∀ A, Room (2 * (n + 1) + 1) A → COk ⟨P, w, K, mg, base, A⟩ ("_law_rounds_judged" : Str) (callF tb n ("_law_rounds_judged" : Str)) 4
  c__law_refused : ∀ A, Room (2 * (n + 1) + 1) A → COk ⟨P, w, K, mg, base, A⟩ ("_law_refused" : Str) (callF tb n ("_law_refused" : Str)) 5
  c__law_along : ∀ A, Room (2 * (n + 1) + 1) A → COk ⟨P, w, K, mg, base, A⟩ ("_law_along" : Str) (callF tb n ("_law_along" : Str)) 2
  c__law_ring_of : ∀ A, Room (2 * (n + 1) + 1) A → COk ⟨P, w, K, mg, base, A⟩ ("_law_ring_of" : Str) (callF tb n ("_law_ring_of" : Str)) 2
  b_int : mg ("int" : Str) = none
  b_list : mg ("list" : Str) = none
  c__law_bent_rounds : ∀ A, Room (2 * (n + 1) + 1) A → COk ⟨P, w, K, mg, base, A⟩ ("_law_bent_rounds" : Str) (callF tb n ("_law_bent_rounds" : Str)) 3
  c__law_nothing : ∀ A, Room (2 * (n + 1) + 1) A → COk ⟨P, w, K, mg, base, A⟩ ("_law_nothing" : Str) (callF tb n ("_law_nothing" : Str)) 0
  c__law_edge : ∀ A, Room (2 * (n + 1) + 1) A → COk ⟨P, w, K, mg, base, A⟩ ("_law_edge" : Str) (callF tb n ("_law_edge" : Str)) 3
  k_MOST_NODES : ∃ u v, mg ("MOST_NODES" : Str) = some u ∧ RelV v u ∧ ∀ Z, Rep ⟨K, mg, none⟩ Z (.int 10) v
  e_TooLarge : ∀ A, EOk ⟨P, w, K, mg, base, A⟩ ("TooLarge" : Str)
  g_TooLarge : mg ("TooLarge" : Str) = some (.ref (He.ga K ("TooLarge" : Str)))
  k_MOST_EDGES : ∃ u v, mg ("MOST_EDGES" : Str) = some u ∧ RelV v u ∧ ∀ Z, Rep ⟨K, mg, none⟩ Z (.int 10) v
  x_BadEdge : ∀ A, Room (2 * (n + 1) + 1) A → XcOk ⟨P, w, K, mg, base, A⟩ ("BadEdge" : Str) ("edge" : Str) (rTp K)
  g_BadEdge : mg ("BadEdge" : Str) = some (.ref (He.ga K ("BadEdge" : Str)))
  b_tuple : mg ("tuple" : Str) = none
  p_Graph_nodes : ∀ A, FOk ⟨P, w, K, mg, base, A⟩ [("Graph" : Str)] ("nodes" : Str)
  p_Graph_edges : ∀ A, FOk ⟨P, w, K, mg, base, A⟩ [("Graph" : Str)] ("edges" : Str)
  p_Graph_size : ∀ A, FOk ⟨P, w, K, mg, base, A⟩ [("Graph" : Str)] ("size" : Str)
  p_Graph_text : ∀ A, FOk ⟨P, w, K, mg, base, A⟩ [("Graph" : Str)] ("text" : Str)
  b_str : mg ("str" : Str) = none
  b_abs : mg ("abs" : Str) = none
  c__law_has_round : ∀ A, Room (2 * (n + 1) + 1) A → COk ⟨P, w, K, mg, base, A⟩ ("_law_has_round" : Str) (callF tb n ("_law_has_round" : Str)) 2
  c_order_paper : ∀ A, Room (2 * (n + 1) + 1) A → COk ⟨P, w, K, mg, base, A⟩ ("order_paper" : Str) (callF tb n ("order_paper" : Str)) 2
  b_isinstance : mg ("isinstance" : Str) = none
  c__law_alike : ∀ A, Room (2 * (n + 1) + 1) A → COk ⟨P, w, K, mg, base, A⟩ ("_law_alike" : Str) (callF tb n ("_law_alike" : Str)) 2
  c__law_plain_row : ∀ A, Room (2 * (n + 1) + 1) A → COk ⟨P, w, K, mg, base, A⟩ ("_law_plain_row" : Str) (callF tb n ("_law_plain_row" : Str)) 1
  c__law_is_order : ∀ A, Room (2 * (n + 1) + 1) A → COk ⟨P, w, K, mg, base, A⟩ ("_law_is_order" : Str) (callF tb n ("_law_is_order" : Str)) 3
  c_shows_order : ∀ A, Room (2 * (n + 1) + 1) A → COk ⟨P, w, K, mg, base, A⟩ ("shows_order" : Str) (callF tb n ("shows_order" : Str)) 3
  c__law_is_round : ∀ A, Room (2 * (n + 1) + 1) A → COk ⟨P, w, K, mg, base, A⟩ ("_law_is_round" : Str) (callF tb n ("_law_is_round" : Str)) 2
  c_shows_round : ∀ A, Room (2 * (n + 1) + 1) A → COk ⟨P, w, K, mg, base, A⟩ ("shows_round" : Str) (callF tb n ("shows_round" : Str)) 3
  b_max : mg ("max" : Str) = none
  c__law_fate : ∀ A, Room (2 * (n + 1) + 1) A → COk ⟨P, w, K, mg, base, A⟩ ("_law_fate" : Str) (callF tb n ("_law_fate" : Str)) 4
  c__law_reach_of : ∀ A, Room (2 * (n + 1) + 1) A → COk ⟨P, w, K, mg, base, A⟩ ("_law_reach_of" : Str) (callF tb n ("_law_reach_of" : Str)) 2
  o_size : ∀ A, FOk ⟨P, w, K, mg, base, A⟩ (["Graph"] : List Str) ("size" : Str)
  c_check_signs : ∀ A, Room (2 * (n + 1) + 1) A → COk ⟨P, w, K, mg, base, A⟩ ("check_signs" : Str) (callF tb n ("check_signs" : Str)) 2
  c_arrows_of : ∀ A, Room (2 * (n + 1) + 1) A → COk ⟨P, w, K, mg, base, A⟩ ("arrows_of" : Str) (callF tb n ("arrows_of" : Str)) 2
  o_nodes : ∀ A, FOk ⟨P, w, K, mg, base, A⟩ (["Graph"] : List Str) ("nodes" : Str)
  c__round_within : ∀ A, Room (2 * (n + 1) + 1) A → COk ⟨P, w, K, mg, base, A⟩ ("_round_within" : Str) (callF tb n ("_round_within" : Str)) 2
  b_bool : mg ("bool" : Str) = none
  b_sorted : mg ("sorted" : Str) = none
  b_enumerate : mg ("enumerate" : Str) = none
  x_BadElement : ∀ A, Room (2 * (n + 1) + 1) A → XcOk ⟨P, w, K, mg, base, A⟩ ("BadElement" : Str) ("element" : Str) rId
  g_BadElement : mg ("BadElement" : Str) = some (.ref (He.ga K ("BadElement" : Str)))
  b_set : mg ("set" : Str) = none
  g_StrikejoinError : mg ("StrikejoinError" : Str) = some (.ref (He.ga K ("StrikejoinError" : Str)))
  s_StrikejoinError : ∀ A, SubOk ⟨P, w, K, mg, base, A⟩ (Cn.v K (.own ("StrikejoinError" : Str))) su_StrikejoinError
  c__law_called : ∀ A, Room (2 * (n + 1) + 1) A → COk ⟨P, w, K, mg, base, A⟩ ("_law_called" : Str) (callF tb n ("_law_called" : Str)) 4
  g_BadSigns : mg ("BadSigns" : Str) = some (.ref (He.ga K ("BadSigns" : Str)))
  i_BadSigns : ∀ A, IsEOk ⟨P, w, K, mg, base, A⟩ (Cn.v K (.own ("BadSigns" : Str))) su_BadSigns
  i_BadElement : ∀ A, IsEOk ⟨P, w, K, mg, base, A⟩ (Cn.v K (.own ("BadElement" : Str))) su_BadElement
  i_ValueError : ∀ A, IsEOk ⟨P, w, K, mg, base, A⟩ (Cn.v K (.ty "ValueError")) su_ValueError
  b_ValueError : mg ("ValueError" : Str) = none
  f_signs : ∀ A, XfOk ⟨P, w, K, mg, base, A⟩ xs_signs ("signs" : Str)
  f_element : ∀ A, XfOk ⟨P, w, K, mg, base, A⟩ xs_element ("element" : Str)
  x_BadSigns : ∀ A, Room (2 * (n + 1) + 1) A → XcOk ⟨P, w, K, mg, base, A⟩ ("BadSigns" : Str) ("signs" : Str) rId
  k_SIGNS : ∃ u v, mg ("SIGNS" : Str) = some u ∧ RelV v u ∧ ∀ Z, Rep ⟨K, mg, none⟩ Z (.str "+-") v
  o_edges : ∀ A, FOk ⟨P, w, K, mg, base, A⟩ (["Graph"] : List Str) ("edges" : Str)
  b_zip : mg ("zip" : Str) = none
section
variable {P : Program} {w : World} {K : PySem.W.Frag} {mg : Str → Option Value} {base : Heap} {n : Nat}
theorem sc_check_signs : FnScope (["signs", "size", "sign"] : List Str) (["signs", "size"] : List Str) (defScope (top 9)) := ⟨rfl, rfl, rfl, by decide +kernel, rfl, by decide +kernel, by decide +kernel⟩
theorem der_check_signs (fx : Fx P w K mg base n) (cdv : Value) (A : Around) (outer : List Env) (s : Shared) (H : Hp) (E : XK) (f : Addr) (hr : Room (2 * (n + 1) + 1) (A.deeper (envOfC "check_signs" (defScope (top 9)) s.heap.objs.size f cdv))) :
    SSs (cxOf (L2.CX P w) P w K mg base (["signs", "size", "sign"] : List Str) "check_signs" (defScope (top 9)) f cdv A outer s H E) (defBody (top 9)) (B_check_signs (callF tb n)) :=
    (sss_cons (ss_if (st_cmp (op_neD hr.units) fits_ne (se_blt call_len fits_len rfl fx.b_len boot_len (sa_cons (se_var (i := 0) rfl (vis1 (by kernel_rfl))) sa_nil)) (se_var (i := 1) rfl (vis1 (by kernel_rfl))))
    (sss_one (ss_rseF rfl (fx.x_BadSigns _ hr) xfit_keep rfl (sa_cons (se_frz (i := 0) rfl (vis1 (by kernel_rfl))) sa_nil)))
    sss_nil)
    (sss_one (ss_lock (ss_for (passes_of rfl) rfl (si_varY (i := 0) rfl (vis1 (by kernel_rfl))) (sg_nm sc_check_signs.nd rfl (loc1 (by kernel_rfl)) (.inr (by kernel_rfl)))
    (sss_one (ss_if (st_cmp (op_notIn (units_ok hr)) fits_notIn (se_var (i := 2) rfl (vis1 (by kernel_rfl))) (se_glob rfl fx.k_SIGNS))
    (sss_one (ss_rseF rfl (fx.x_BadSigns _ hr) xfit_keep rfl (sa_cons (se_frz (i := 0) rfl (vis1 (by kernel_rfl))) sa_nil)))
    sss_nil))))))
theorem sc_arrows_of : FnScope (["graph", "direction", "arrows", "first", "second", "sign"] : List Str) (["graph", "direction"] : List Str) (defScope (top 10)) := ⟨rfl, rfl, rfl, by decide +kernel, rfl, by decide +kernel, by decide +kernel⟩
theorem der_arrows_of (fx : Fx P w K mg base n) (cdv : Value) (A : Around) (outer : List Env) (s : Shared) (H : Hp) (E : XK) (f : Addr) (hr : Room (2 * (n + 1) + 1) (A.deeper (envOfC "arrows_of" (defScope (top 10)) s.heap.objs.size f cdv))) :
    SSs (cxOf (L2.CX P w) P w K mg base (["graph", "direction", "arrows", "first", "second", "sign"] : List Str) "arrows_of" (defScope (top 10)) f cdv A outer s H E) (defBody (top 10)) (B_arrows_of (callF tb n)) :=
    (sss_cons (ss_set (i := 2) sc_arrows_of.nd rfl (loc1 (by kernel_rfl)) (se_lst sds_nil) rfl (.inr (by kernel_rfl)))
    (sss_cons (ss_lock (ss_for (passes_of rfl) rfl (si_zipY rfl fx.b_zip (sq_e (se_fld (fx.o_edges _) (se_var (i := 0) rfl (vis1 (by kernel_rfl))))) (sq_v (i := 1) rfl (vis1 (by kernel_rfl)))) (sg_tup rfl (sgs_cons (sg_tup rfl (sgs_cons (sg_nm sc_arrows_of.nd rfl (loc1 (by kernel_rfl)) (.inr (by kernel_rfl))) (sgs_cons (sg_nm sc_arrows_of.nd rfl (loc1 (by kernel_rfl)) (.inr (by kernel_rfl))) sgs_nil))) (sgs_cons (sg_nm sc_arrows_of.nd rfl (loc1 (by kernel_rfl)) (.inr (by kernel_rfl))) sgs_nil)))
    (sss_one (ss_if (st_cmp (op_eqD hr.units) fits_eq (se_var (i := 5) rfl (vis1 (by kernel_rfl))) se_str)
    (sss_one (ss_app (i := 2) rfl (vis1 (by kernel_rfl)) (se_tup (sds_cons (se_frz (i := 3) rfl (vis1 (by kernel_rfl))) (sds_cons (se_frz (i := 4) rfl (vis1 (by kernel_rfl))) sds_nil)))))
    (sss_one (ss_app (i := 2) rfl (vis1 (by kernel_rfl)) (se_tup (sds_cons (se_frz (i := 4) rfl (vis1 (by kernel_rfl))) (sds_cons (se_frz (i := 3) rfl (vis1 (by kernel_rfl))) sds_nil)))))))))
    (sss_one (ss_ret (se_mv (i := 2) rfl (vis1 (by kernel_rfl)))))))
theorem sc__round_within : FnScope (["arrows", "left", "node", "passed", "edges", "edge", "backwards", "index", "tail", "head"] : List Str) (["arrows", "left"] : List Str) (defScope (top 11)) := ⟨rfl, rfl, rfl, by decide +kernel, rfl, by decide +kernel, by decide +kernel⟩
theorem der__round_within (fx : Fx P w K mg base n) (cdv : Value) (A : Around) (outer : List Env) (s : Shared) (H : Hp) (E : XK) (f : Addr) (hr : Room (2 * (n + 1) + 1) (A.deeper (envOfC "_round_within" (defScope (top 11)) s.heap.objs.size f cdv))) :
    SSs (cxOf (L2.CX P w) P w K mg base (["arrows", "left", "node", "passed", "edges", "edge", "backwards", "index", "tail", "head"] : List Str) "_round_within" (defScope (top 11)) f cdv A outer s H E) (defBody (top 11)) (B__round_within (callF tb n)) :=
    (sss_cons (ss_set (i := 2) sc__round_within.nd rfl (loc2 (by kernel_rfl)) (se_ix (se_var (i := 1) rfl (vis2 (by kernel_rfl))) se_int) rfl (.inl (by kernel_rfl)))
    (sss_cons (ss_set (i := 3) sc__round_within.nd rfl (loc1 (by kernel_rfl)) (se_lst sds_nil) rfl (.inr (by kernel_rfl)))
    (sss_cons (ss_set (i := 4) sc__round_within.nd rfl (loc1 (by kernel_rfl)) (se_lst sds_nil) rfl (.inr (by kernel_rfl)))
    (sss_cons (ss_while (passes_of rfl) (st_cmp (op_notIn (units_ok hr)) fits_notIn (se_var (i := 2) rfl (vis2 (by kernel_rfl))) (se_var (i := 3) rfl (vis1 (by kernel_rfl))))
    (sss_cons (ss_app (i := 3) rfl (vis1 (by kernel_rfl)) (se_frz (i := 2) rfl (vis2 (by kernel_rfl))))
    (sss_cons (ss_set (i := 5) sc__round_within.nd rfl (loc1 (by kernel_rfl)) (se_ix (se_lock (se_lc (own := [("index", 7), ("tail", 8), ("head", 9)]) rfl sc__round_within.nd (si_enumY rfl fx.b_enumerate (sq_v (i := 0) rfl (vis1 (by kernel_rfl)))) (blkB_ok (by kernel_rfl)) (fun s H C cl fp => (sn_tup rfl (sns_cons (sn_nm sc__round_within.nd rfl (loc1 (by kernel_rfl)) (.inr (by kernel_rfl))) (sns_cons (sn_tup rfl (sns_cons (sn_nm sc__round_within.nd rfl (loc1 (by kernel_rfl)) (.inr (by kernel_rfl))) (sns_cons (sn_nm sc__round_within.nd rfl (loc1 (by kernel_rfl)) (.inr (by kernel_rfl))) sns_nil))) sns_nil)))) (fun s H C cl fp => (sc_one (st_w (sw_and (st_cmp (op_eqD hr.units) fits_eq (se_var (i := 9) rfl (vis1 (by kernel_rfl))) (se_var (i := 2) rfl (vis2 (by kernel_rfl)))) (sw_and1 (st_cmp (op_in (units_ok hr)) fits_in (se_var (i := 8) rfl (vis1 (by kernel_rfl))) (se_var (i := 1) rfl (vis2 (by kernel_rfl))))))))) (fun s H C cl fp => (se_frz (i := 7) rfl (vis1 (by kernel_rfl)))))) se_int) rfl (.inr (by kernel_rfl)))
    (sss_cons (ss_app (i := 4) rfl (vis1 (by kernel_rfl)) (se_frz (i := 5) rfl (vis1 (by kernel_rfl))))
    (sss_one (ss_set (i := 2) sc__round_within.nd rfl (loc2 (by kernel_rfl)) (se_ix (se_ix (se_var (i := 0) rfl (vis1 (by kernel_rfl))) (se_var (i := 5) rfl (vis1 (by kernel_rfl)))) se_int) rfl (.inl (by kernel_rfl))))))))
    (sss_cons (ss_set (i := 6) sc__round_within.nd rfl (loc1 (by kernel_rfl)) (se_sl (se_var (i := 4) rfl (vis1 (by kernel_rfl))) (so_some (se_index (se_var (i := 3) rfl (vis1 (by kernel_rfl))) (sa_cons (se_var (i := 2) rfl (vis2 (by kernel_rfl))) sa_nil))) so_none) rfl (.inr (by kernel_rfl)))
    (sss_one (ss_ret (se_bltT call_tuple_of fits_tuple rfl fx.b_tuple boot_tuple (sa_cons (se_rev (se_var (i := 6) rfl (vis1 (by kernel_rfl)))) sa_nil)))))))))
theorem sc_order_paper : FnScope (["graph", "direction", "arrows", "order", "left", "heads", "ready", "tail", "head", "node"] : List Str) (["graph", "direction"] : List Str) (defScope (top 12)) := ⟨rfl, rfl, rfl, by decide +kernel, rfl, by decide +kernel, by decide +kernel⟩
theorem der_order_paper (fx : Fx P w K mg base n) (cdv : Value) (A : Around) (outer : List Env) (s : Shared) (H : Hp) (E : XK) (f : Addr) (hr : Room (2 * (n + 1) + 1) (A.deeper (envOfC "order_paper" (defScope (top 12)) s.heap.objs.size f cdv))) :
    SSs (cxOf (L2.CX P w) P w K mg base (["graph", "direction", "arrows", "order", "left", "heads", "ready", "tail", "head", "node"] : List Str) "order_paper" (defScope (top 12)) f cdv A outer s H E) (defBody (top 12)) (B_order_paper (callF tb n)) :=
    (sss_cons (ss_expr (se_call rfl (fx.c_check_signs _ hr) (sa_cons (se_frz (i := 1) rfl (vis1 (by kernel_rfl))) (sa_cons (se_fld (fx.o_size _) (se_var (i := 0) rfl (vis1 (by kernel_rfl)))) sa_nil)) rfl (hlen := (len_cons (len_cons len_nil)))))
    (sss_cons (ss_set (i := 2) sc_order_paper.nd rfl (loc1 (by kernel_rfl)) (se_call rfl (fx.c_arrows_of _ hr) (sa_cons (se_var (i := 0) rfl (vis1 (by kernel_rfl))) (sa_cons (se_var (i := 1) rfl (vis1 (by kernel_rfl))) sa_nil)) rfl (hlen := (len_cons (len_cons len_nil)))) rfl (.inr (by kernel_rfl)))
    (sss_cons (ss_set (i := 3) sc_order_paper.nd rfl (loc1 (by kernel_rfl)) (se_lst sds_nil) rfl (.inr (by kernel_rfl)))
    (sss_cons (ss_set (i := 4) sc_order_paper.nd rfl (loc2 (by kernel_rfl)) (se_lrg1 rfl rfl fx.b_list rfl fx.b_range (se_fld (fx.o_nodes _) (se_var (i := 0) rfl (vis1 (by kernel_rfl))))) rfl (.inl (by kernel_rfl)))
    (sss_cons (ss_while (passes_of rfl) (st_tr (se_var (i := 4) rfl (vis2 (by kernel_rfl))))
    (sss_cons (ss_lock (ss_set (i := 5) sc_order_paper.nd rfl (loc2 (by kernel_rfl)) (se_lc (own := [("tail", 7), ("head", 8)]) rfl sc_order_paper.nd (si_varY (i := 2) rfl (vis1 (by kernel_rfl))) (blkB_ok (by kernel_rfl)) (fun s H C cl fp => (sn_tup rfl (sns_cons (sn_nm sc_order_paper.nd rfl (loc1 (by kernel_rfl)) (.inr (by kernel_rfl))) (sns_cons (sn_nm sc_order_paper.nd rfl (loc1 (by kernel_rfl)) (.inr (by kernel_rfl))) sns_nil)))) (fun s H C cl fp => (sc_one (st_cmp (op_in (units_ok hr)) fits_in (se_var (i := 7) rfl (vis1 (by kernel_rfl))) (se_var (i := 4) rfl (vis2 (by kernel_rfl)))))) (fun s H C cl fp => (se_frz (i := 8) rfl (vis1 (by kernel_rfl))))) rfl (.inl (by kernel_rfl))))
    (sss_cons (ss_lock (ss_setLc (i := 6) (own := [("node", 9)]) rfl sc_order_paper.nd rfl (by kernel_rfl) rfl (si_varY (i := 4) rfl (vis2 (by kernel_rfl))) (blkB_ok (by kernel_rfl)) (fun s H C cl fp => (sn_nm sc_order_paper.nd rfl (loc1 (by kernel_rfl)) (.inr (by kernel_rfl)))) (fun s H C cl fp => (sc_one (st_cmp (op_notIn (units_ok hr)) fits_notIn (se_var (i := 9) rfl (vis1 (by kernel_rfl))) (se_var (i := 5) rfl (vis2 (by kernel_rfl)))))) (fun s H C cl fp => (se_frz (i := 9) rfl (vis1 (by kernel_rfl))))))
    (sss_cons (ss_if (st_not (st_tr (se_var (i := 6) rfl (vis1 (by kernel_rfl)))))
    (sss_one (ss_ret (se_tup (sds_cons se_str (sds_cons (se_call rfl (fx.c__round_within _ hr) (sa_cons (se_var (i := 2) rfl (vis1 (by kernel_rfl))) (sa_cons (se_var (i := 4) rfl (vis2 (by kernel_rfl))) sa_nil)) rfl (hlen := (len_cons (len_cons len_nil)))) sds_nil)))))
    sss_nil)
    (sss_cons (ss_set (i := 3) sc_order_paper.nd rfl (loc1 (by kernel_rfl)) (se_bin op_addA fits_add (se_var (i := 3) rfl (vis1 (by kernel_rfl))) (se_var (i := 6) rfl (vis1 (by kernel_rfl)))) rfl (.inr (by kernel_rfl)))
    (sss_one (ss_lock (ss_set (i := 4) sc_order_paper.nd rfl (loc2 (by kernel_rfl)) (se_lc (own := [("node", 9)]) rfl sc_order_paper.nd (si_varY (i := 4) rfl (vis2 (by kernel_rfl))) (blkB_ok (by kernel_rfl)) (fun s H C cl fp => (sn_nm sc_order_paper.nd rfl (loc1 (by kernel_rfl)) (.inr (by kernel_rfl)))) (fun s H C cl fp => (sc_one (st_cmp (op_in (units_ok hr)) fits_in (se_var (i := 9) rfl (vis1 (by kernel_rfl))) (se_var (i := 5) rfl (vis2 (by kernel_rfl)))))) (fun s H C cl fp => (se_frz (i := 9) rfl (vis1 (by kernel_rfl))))) rfl (.inl (by kernel_rfl))))))))))
    (sss_one (ss_ret (se_tup (sds_cons se_str (sds_cons (se_bltT call_tuple_of fits_tuple rfl fx.b_tuple boot_tuple (sa_cons (se_var (i := 3) rfl (vis1 (by kernel_rfl))) sa_nil)) sds_nil))))))))))
theorem sc_shows_order : FnScope (["graph", "direction", "nodes", "places", "tail", "head", "place", "node"] : List Str) (["graph", "direction", "nodes"] : List Str) (defScope (top 13)) := ⟨rfl, rfl, rfl, by decide +kernel, rfl, by decide +kernel, by decide +kernel⟩
theorem der_shows_order (fx : Fx P w K mg base n) (cdv : Value) (A : Around) (outer : List Env) (s : Shared) (H : Hp) (E : XK) (f : Addr) (hr : Room (2 * (n + 1) + 1) (A.deeper (envOfC "shows_order" (defScope (top 13)) s.heap.objs.size f cdv))) :
    SSs (cxOf (L2.CX P w) P w K mg base (["graph", "direction", "nodes", "places", "tail", "head", "place", "node"] : List Str) "shows_order" (defScope (top 13)) f cdv A outer s H E) (defBody (top 13)) (B_shows_order (callF tb n)) :=
    (sss_cons (ss_expr (se_call rfl (fx.c_check_signs _ hr) (sa_cons (se_frz (i := 1) rfl (vis1 (by kernel_rfl))) (sa_cons (se_fld (fx.o_size _) (se_var (i := 0) rfl (vis1 (by kernel_rfl)))) sa_nil)) rfl (hlen := (len_cons (len_cons len_nil)))))
    (sss_cons (ss_if (st_cmp (op_neD hr.units) fits_ne (se_blt cr_sortY fits_sortY rfl fx.b_sorted boot_sorted (sa_cons (se_var (i := 2) rfl (vis1 (by kernel_rfl))) sa_nil)) (se_lrg1 rfl rfl fx.b_list rfl fx.b_range (se_fld (fx.o_nodes _) (se_var (i := 0) rfl (vis1 (by kernel_rfl))))))
    (sss_one (ss_ret se_bl))
    sss_nil)
    (sss_cons (ss_lock (ss_setDc (i := 3) (own := [("place", 6), ("node", 7)]) rfl sc_shows_order.nd rfl (by kernel_rfl) rfl (si_enumY rfl fx.b_enumerate (sq_v (i := 2) rfl (vis1 (by kernel_rfl)))) (blkB_ok (by kernel_rfl)) (fun s H C cl fp => (sn_tup rfl (sns_cons (sn_nm sc_shows_order.nd rfl (loc1 (by kernel_rfl)) (.inr (by kernel_rfl))) (sns_cons (sn_nm sc_shows_order.nd rfl (loc1 (by kernel_rfl)) (.inr (by kernel_rfl))) sns_nil)))) (fun s H C cl fp => sc_nil) (fun s H C cl fp => (se_frz (i := 7) rfl (vis1 (by kernel_rfl)))) (fun s H C cl fp => (se_frz (i := 6) rfl (vis1 (by kernel_rfl))))))
    (sss_cons (ss_for (passes_of rfl) rfl (si_seq (se_call rfl (fx.c_arrows_of _ hr) (sa_cons (se_var (i := 0) rfl (vis1 (by kernel_rfl))) (sa_cons (se_var (i := 1) rfl (vis1 (by kernel_rfl))) sa_nil)) rfl (hlen := (len_cons (len_cons len_nil))))) (sg_tup rfl (sgs_cons (sg_nm sc_shows_order.nd rfl (loc1 (by kernel_rfl)) (.inr (by kernel_rfl))) (sgs_cons (sg_nm sc_shows_order.nd rfl (loc1 (by kernel_rfl)) (.inr (by kernel_rfl))) sgs_nil)))
    (sss_one (ss_if (st_cmp op_ge fits_cmpI (se_dget (units_ok hr) (se_var (i := 3) rfl (vis1 (by kernel_rfl))) (se_var (i := 4) rfl (vis1 (by kernel_rfl)))) (se_dget (units_ok hr) (se_var (i := 3) rfl (vis1 (by kernel_rfl))) (se_var (i := 5) rfl (vis1 (by kernel_rfl)))))
    (sss_one (ss_ret se_bl))
    sss_nil)))
    (sss_one (ss_ret se_bl))))))
theorem sc_shows_round : FnScope (["graph", "direction", "edges", "edge", "arrows", "tails", "heads"] : List Str) (["graph", "direction", "edges"] : List Str) (defScope (top 14)) := ⟨rfl, rfl, rfl, by decide +kernel, rfl, by decide +kernel, by decide +kernel⟩
theorem der_shows_round (fx : Fx P w K mg base n) (cdv : Value) (A : Around) (outer : List Env) (s : Shared) (H : Hp) (E : XK) (f : Addr) (hr : Room (2 * (n + 1) + 1) (A.deeper (envOfC "shows_round" (defScope (top 14)) s.heap.objs.size f cdv))) :
    SSs (cxOf (L2.CX P w) P w K mg base (["graph", "direction", "edges", "edge", "arrows", "tails", "heads"] : List Str) "shows_round" (defScope (top 14)) f cdv A outer s H E) (defBody (top 14)) (B_shows_round (callF tb n)) :=
    (sss_cons (ss_expr (se_call rfl (fx.c_check_signs _ hr) (sa_cons (se_frz (i := 1) rfl (vis1 (by kernel_rfl))) (sa_cons (se_fld (fx.o_size _) (se_var (i := 0) rfl (vis1 (by kernel_rfl)))) sa_nil)) rfl (hlen := (len_cons (len_cons len_nil)))))
    (sss_cons (ss_lock (ss_for (passes_of rfl) rfl (si_varY (i := 2) rfl (vis1 (by kernel_rfl))) (sg_nm sc_shows_round.nd rfl (loc1 (by kernel_rfl)) (.inr (by kernel_rfl)))
    (sss_one (ss_if (st_not (st_chain op_le op_lt fits_cmpI fits_cmpI se_int (se_var (i := 3) rfl (vis1 (by kernel_rfl))) (se_fld (fx.o_size _) (se_var (i := 0) rfl (vis1 (by kernel_rfl))))))
    (sss_one (ss_rseF rfl (fx.x_BadElement _ hr) xfit_keep rfl (sa_cons (se_frz (i := 3) rfl (vis1 (by kernel_rfl))) sa_nil)))
    sss_nil))))
    (sss_cons (ss_if (st_cmp (op_eqD hr.units) fits_eq (se_blt call_len fits_len rfl fx.b_len boot_len (sa_cons (se_var (i := 2) rfl (vis1 (by kernel_rfl))) sa_nil)) se_int)
    (sss_one (ss_ret se_bl))
    sss_nil)
    (sss_cons (ss_set (i := 4) sc_shows_round.nd rfl (loc2 (by kernel_rfl)) (se_call rfl (fx.c_arrows_of _ hr) (sa_cons (se_var (i := 0) rfl (vis1 (by kernel_rfl))) (sa_cons (se_var (i := 1) rfl (vis1 (by kernel_rfl))) sa_nil)) rfl (hlen := (len_cons (len_cons len_nil)))) rfl (.inl (by kernel_rfl)))
    (sss_cons (ss_lock (ss_setLc (i := 5) (own := [("edge", 3)]) rfl sc_shows_round.nd rfl (by kernel_rfl) rfl (si_varY (i := 2) rfl (vis1 (by kernel_rfl))) (blkB_ok (by kernel_rfl)) (fun s H C cl fp => (sn_nm sc_shows_round.nd rfl (loc1 (by kernel_rfl)) (.inr (by kernel_rfl)))) (fun s H C cl fp => sc_nil) (fun s H C cl fp => (se_ix (se_ix (se_var (i := 4) rfl (vis2 (by kernel_rfl))) (se_var (i := 3) rfl (vis1 (by kernel_rfl)))) se_int))))
    (sss_cons (ss_lock (ss_setLc (i := 6) (own := [("edge", 3)]) rfl sc_shows_round.nd rfl (by kernel_rfl) rfl (si_varY (i := 2) rfl (vis1 (by kernel_rfl))) (blkB_ok (by kernel_rfl)) (fun s H C cl fp => (sn_nm sc_shows_round.nd rfl (loc1 (by kernel_rfl)) (.inr (by kernel_rfl)))) (fun s H C cl fp => sc_nil) (fun s H C cl fp => (se_ix (se_ix (se_var (i := 4) rfl (vis2 (by kernel_rfl))) (se_var (i := 3) rfl (vis1 (by kernel_rfl)))) se_int))))
    (sss_one (ss_ret (se_andV (se_cmp (op_eqD hr.units) fits_eq (se_var (i := 6) rfl (vis1 (by kernel_rfl))) (se_bin op_addA fits_add (se_sl (se_var (i := 5) rfl (vis1 (by kernel_rfl))) (so_some se_int) so_none) (se_sl (se_var (i := 5) rfl (vis1 (by kernel_rfl))) so_none (so_some se_int)))) (se_one (se_cmp (op_eqD hr.units) fits_eq (se_lenSet rfl rfl fx.b_len rfl fx.b_set (se_var (i := 5) rfl (vis1 (by kernel_rfl)))) (se_blt call_len fits_len rfl fx.b_len boot_len (sa_cons (se_var (i := 5) rfl (vis1 (by kernel_rfl))) sa_nil)))))))))))))
theorem sc_Graph : FnScope (["self", "nodes", "edges", "u", "v"] : List Str) (["self", "nodes", "edges"] : List Str) (defScope (inCls 22 0)) := ⟨rfl, rfl, rfl, by decide +kernel, rfl, by decide +kernel, by decide +kernel⟩
theorem der_Graph (fx : Fx P w K mg base n) (cdv : Value) (A : Around) (outer : List Env) (s : Shared) (H : Hp) (E : XK) (f : Addr) (hr : Room (2 * (n + 1) + 1) (A.deeper (envOfC "Graph.__init__" (defScope (inCls 22 0)) s.heap.objs.size f cdv))) :
    SSs (cxOf (L2.CX P w) P w K mg base (["self", "nodes", "edges", "u", "v"] : List Str) "Graph.__init__" (defScope (inCls 22 0)) f cdv A outer s H E) (defBody (inCls 22 0)) (B_Graph (callF tb n)) :=
    (sss_cons (ss_if (st_not (st_chain op_le op_le fits_cmpI fits_cmpI se_int (se_var (i := 1) rfl (vis1 (by kernel_rfl))) (se_glob rfl fx.k_MOST_NODES)))
    (sss_one (ss_rse rfl (fx.e_TooLarge _) rfl))
    sss_nil)
    (sss_cons (ss_if (st_cmp op_gt fits_cmpI (se_blt call_len fits_len rfl fx.b_len boot_len (sa_cons (se_var (i := 2) rfl (vis1 (by kernel_rfl))) sa_nil)) (se_glob rfl fx.k_MOST_EDGES))
    (sss_one (ss_rse rfl (fx.e_TooLarge _) rfl))
    sss_nil)
    (sss_cons (ss_lock (ss_for (passes_of rfl) rfl (si_varY (i := 2) rfl (vis1 (by kernel_rfl))) (sg_tup rfl (sgs_cons (sg_nm sc_Graph.nd rfl (loc1 (by kernel_rfl)) (.inr (by kernel_rfl))) (sgs_cons (sg_nm sc_Graph.nd rfl (loc1 (by kernel_rfl)) (.inr (by kernel_rfl))) sgs_nil)))
    (sss_one (ss_if (st_not (st_w (sw_and (st_chain op_le op_lt fits_cmpI fits_cmpI se_int (se_var (i := 3) rfl (vis1 (by kernel_rfl))) (se_var (i := 1) rfl (vis1 (by kernel_rfl)))) (sw_and1 (st_chain op_le op_lt fits_cmpI fits_cmpI se_int (se_var (i := 4) rfl (vis1 (by kernel_rfl))) (se_var (i := 1) rfl (vis1 (by kernel_rfl))))))))
    (sss_one (ss_rseF rfl (fx.x_BadEdge _ hr) xfit_tup rfl (sa_cons (se_tup (sds_cons (se_frz (i := 3) rfl (vis1 (by kernel_rfl))) (sds_cons (se_frz (i := 4) rfl (vis1 (by kernel_rfl))) sds_nil))) sa_nil)))
    sss_nil))))
    (sss_cons (ss_fld (i := 0) (fx.p_Graph_nodes _) rfl (vis1 (by kernel_rfl)) (se_frz (i := 1) rfl (vis1 (by kernel_rfl))))
    (sss_cons (ss_fld (i := 0) (fx.p_Graph_edges _) rfl (vis1 (by kernel_rfl)) (se_bltT call_tuple_of fits_tuple rfl fx.b_tuple boot_tuple (sa_cons (se_lock (se_lc (own := [("u", 3), ("v", 4)]) rfl sc_Graph.nd (si_varY (i := 2) rfl (vis1 (by kernel_rfl))) (blkB_ok (by kernel_rfl)) (fun s H C cl fp => (sn_tup rfl (sns_cons (sn_nm sc_Graph.nd rfl (loc1 (by kernel_rfl)) (.inr (by kernel_rfl))) (sns_cons (sn_nm sc_Graph.nd rfl (loc1 (by kernel_rfl)) (.inr (by kernel_rfl))) sns_nil)))) (fun s H C cl fp => sc_nil) (fun s H C cl fp => (se_tup (sds_cons (se_frz (i := 3) rfl (vis1 (by kernel_rfl))) (sds_cons (se_frz (i := 4) rfl (vis1 (by kernel_rfl))) sds_nil)))))) sa_nil)))
    (sss_cons (ss_fld (i := 0) (fx.p_Graph_size _) rfl (vis1 (by kernel_rfl)) (se_blt call_len fits_len rfl fx.b_len boot_len (sa_cons (se_var (i := 2) rfl (vis1 (by kernel_rfl))) sa_nil)))
    (sss_one (ss_fld (i := 0) (fx.p_Graph_text _) rfl (vis1 (by kernel_rfl)) (se_bin op_addA fits_add (se_bin op_addA fits_add (se_bltT call_strA fits_str rfl fx.b_str boot_str (sa_cons (se_var (i := 1) rfl (vis1 (by kernel_rfl))) sa_nil)) se_str) (se_join se_str (se_lock (se_lc (own := [("u", 3), ("v", 4)]) rfl sc_Graph.nd (si_varY (i := 2) rfl (vis1 (by kernel_rfl))) (blkB_ok (by kernel_rfl)) (fun s H C cl fp => (sn_tup rfl (sns_cons (sn_nm sc_Graph.nd rfl (loc1 (by kernel_rfl)) (.inr (by kernel_rfl))) (sns_cons (sn_nm sc_Graph.nd rfl (loc1 (by kernel_rfl)) (.inr (by kernel_rfl))) sns_nil)))) (fun s H C cl fp => sc_nil) (fun s H C cl fp => (se_fstr (sj_txt se_str (sj_fmt (se_var (i := 3) rfl (vis1 (by kernel_rfl))) (sj_fmt (se_var (i := 4) rfl (vis1 (by kernel_rfl))) sj_nil)))))))))))))))))
theorem sc__law_cell : FnScope (["script", "k"] : List Str) (["script", "k"] : List Str) (defScope (top 24)) := ⟨rfl, rfl, rfl, by decide +kernel, rfl, by decide +kernel, by decide +kernel⟩
theorem der__law_cell (fx : Fx P w K mg base n) (cdv : Value) (A : Around) (outer : List Env) (s : Shared) (H : Hp) (E : XK) (f : Addr) (hr : Room (2 * (n + 1) + 1) (A.deeper (envOfC "_law_cell" (defScope (top 24)) s.heap.objs.size f cdv))) :
    SSs (cxOf (L2.CX P w) P w K mg base (["script", "k"] : List Str) "_law_cell" (defScope (top 24)) f cdv A outer s H E) (defBody (top 24)) (B__law_cell (callF tb n)) :=
    (sss_cons (ss_if (st_cmp op_lt fits_cmpI (se_var (i := 1) rfl (vis1 (by kernel_rfl))) (se_blt call_len fits_len rfl fx.b_len boot_len (sa_cons (se_var (i := 0) rfl (vis1 (by kernel_rfl))) sa_nil)))
    (sss_one (ss_ret (se_blt call_abs fits_abs rfl fx.b_abs boot_abs (sa_cons (se_bltT call_intA fits_int rfl fx.b_int boot_int (sa_cons (se_ix (se_var (i := 0) rfl (vis1 (by kernel_rfl))) (se_var (i := 1) rfl (vis1 (by kernel_rfl)))) sa_nil)) sa_nil))))
    sss_nil)
    (sss_one (ss_ret se_int)))
theorem sc__law_alike : FnScope (["told", "due", "k"] : List Str) (["told", "due"] : List Str) (defScope (top 25)) := ⟨rfl, rfl, rfl, by decide +kernel, rfl, by decide +kernel, by decide +kernel⟩
theorem der__law_alike (fx : Fx P w K mg base n) (cdv : Value) (A : Around) (outer : List Env) (s : Shared) (H : Hp) (E : XK) (f : Addr) (hr : Room (2 * (n + 1) + 1) (A.deeper (envOfC "_law_alike" (defScope (top 25)) s.heap.objs.size f cdv))) :
    SSs (cxOf (L2.CX P w) P w K mg base (["told", "due", "k"] : List Str) "_law_alike" (defScope (top 25)) f cdv A outer s H E) (defBody (top 25)) (B__law_alike (callF tb n)) :=
    (sss_cons (ss_if (st_tr (se_isi (T := "tuple") (se_var (i := 1) rfl (vis1 (by kernel_rfl))) rfl fx.b_isinstance rfl fx.b_tuple boot_tuple))
    (sss_cons (ss_if (st_w (sw_or (st_not (st_tr (se_isi (T := "tuple") (se_var (i := 0) rfl (vis1 (by kernel_rfl))) rfl fx.b_isinstance rfl fx.b_tuple boot_tuple))) (sw_or1 (st_cmp (op_neD hr.units) fits_ne (se_blt call_len fits_len rfl fx.b_len boot_len (sa_cons (se_var (i := 0) rfl (vis1 (by kernel_rfl))) sa_nil)) (se_blt call_len fits_len rfl fx.b_len boot_len (sa_cons (se_var (i := 1) rfl (vis1 (by kernel_rfl))) sa_nil))))))
    (sss_one (ss_ret se_bl))
    sss_nil)
    (sss_cons (ss_for (passes_of rfl) rfl (si_rg1 rfl fx.b_range (se_blt call_len fits_len rfl fx.b_len boot_len (sa_cons (se_var (i := 1) rfl (vis1 (by kernel_rfl))) sa_nil))) (sg_nm sc__law_alike.nd rfl (loc1 (by kernel_rfl)) (.inr (by kernel_rfl)))
    (sss_one (ss_if (st_not (st_tr (se_call rfl (fx.c__law_alike _ hr) (sa_cons (se_ix (se_var (i := 0) rfl (vis1 (by kernel_rfl))) (se_var (i := 2) rfl (vis1 (by kernel_rfl)))) (sa_cons (se_ix (se_var (i := 1) rfl (vis1 (by kernel_rfl))) (se_var (i := 2) rfl (vis1 (by kernel_rfl)))) sa_nil)) rfl (hlen := (len_cons (len_cons len_nil))))))
    (sss_one (ss_ret se_bl))
    sss_nil)))
    (sss_one (ss_ret se_bl))))
    sss_nil)
    (sss_cons (ss_if (st_tr (se_isi (T := "str") (se_var (i := 1) rfl (vis1 (by kernel_rfl))) rfl fx.b_isinstance rfl fx.b_str boot_str))
    (sss_one (ss_ret (se_andV (se_isi (T := "str") (se_var (i := 0) rfl (vis1 (by kernel_rfl))) rfl fx.b_isinstance rfl fx.b_str boot_str) (se_one (se_cmp (op_eqD hr.units) fits_eq (se_var (i := 0) rfl (vis1 (by kernel_rfl))) (se_var (i := 1) rfl (vis1 (by kernel_rfl))))))))
    sss_nil)
    (sss_cons (ss_if (st_tr (se_isi (T := "bool") (se_var (i := 1) rfl (vis1 (by kernel_rfl))) rfl fx.b_isinstance rfl fx.b_bool boot_bool))
    (sss_one (ss_ret (se_andV (se_isi (T := "bool") (se_var (i := 0) rfl (vis1 (by kernel_rfl))) rfl fx.b_isinstance rfl fx.b_bool boot_bool) (se_one (se_cmp (op_eqD hr.units) fits_eq (se_var (i := 0) rfl (vis1 (by kernel_rfl))) (se_var (i := 1) rfl (vis1 (by kernel_rfl))))))))
    sss_nil)
    (sss_one (ss_ret (se_andV (se_isi (T := "int") (se_var (i := 0) rfl (vis1 (by kernel_rfl))) rfl fx.b_isinstance rfl fx.b_int boot_int) (se_andV (se_notV (se_isi (T := "bool") (se_var (i := 0) rfl (vis1 (by kernel_rfl))) rfl fx.b_isinstance rfl fx.b_bool boot_bool)) (se_one (se_cmp (op_eqD hr.units) fits_eq (se_var (i := 0) rfl (vis1 (by kernel_rfl))) (se_var (i := 1) rfl (vis1 (by kernel_rfl))))))))))))
theorem sc__law_edge : FnScope (["cell", "k", "nodes", "first"] : List Str) (["cell", "k", "nodes"] : List Str) (defScope (top 26)) := ⟨rfl, rfl, rfl, by decide +kernel, rfl, by decide +kernel, by decide +kernel⟩
theorem der__law_edge (fx : Fx P w K mg base n) (cdv : Value) (A : Around) (outer : List Env) (s : Shared) (H : Hp) (E : XK) (f : Addr) (hr : Room (2 * (n + 1) + 1) (A.deeper (envOfC "_law_edge" (defScope (top 26)) s.heap.objs.size f cdv))) :
    SSs (cxOf (L2.CX P w) P w K mg base (["cell", "k", "nodes", "first"] : List Str) "_law_edge" (defScope (top 26)) f cdv A outer s H E) (defBody (top 26)) (B__law_edge (callF tb n)) :=
    (sss_cons (ss_set (i := 3) sc__law_edge.nd rfl (loc1 (by kernel_rfl)) (se_bin op_modN fits_mod (se_bltT call_intA fits_int rfl fx.b_int boot_int (sa_cons (se_bin op_addA fits_add (se_var (i := 0) rfl (vis1 (by kernel_rfl))) (se_var (i := 1) rfl (vis1 (by kernel_rfl)))) sa_nil)) (se_var (i := 2) rfl (vis1 (by kernel_rfl)))) rfl (.inr (by kernel_rfl)))
    (sss_one (ss_ret (se_tup (sds_cons (se_frz (i := 3) rfl (vis1 (by kernel_rfl))) (sds_cons (se_bin op_modN fits_mod (se_bltT call_intA fits_int rfl fx.b_int boot_int (sa_cons (se_bin op_addA fits_add (se_bin op_addA fits_add (se_bin op_addA fits_add (se_bin op_fdivA fits_fdiv (se_var (i := 0) rfl (vis1 (by kernel_rfl))) (se_var (i := 2) rfl (vis1 (by kernel_rfl)))) (se_var (i := 1) rfl (vis1 (by kernel_rfl)))) se_int) (se_bin op_fdivA fits_fdiv (se_var (i := 1) rfl (vis1 (by kernel_rfl))) (se_var (i := 2) rfl (vis1 (by kernel_rfl))))) sa_nil)) (se_var (i := 2) rfl (vis1 (by kernel_rfl)))) sds_nil))))))
theorem sc__law_world : FnScope (["script", "nodes", "size", "edges", "k"] : List Str) (["script"] : List Str) (defScope (top 27)) := ⟨rfl, rfl, rfl, by decide +kernel, rfl, by decide +kernel, by decide +kernel⟩
theorem der__law_world (fx : Fx P w K mg base n) (cdv : Value) (A : Around) (outer : List Env) (s : Shared) (H : Hp) (E : XK) (f : Addr) (hr : Room (2 * (n + 1) + 1) (A.deeper (envOfC "_law_world" (defScope (top 27)) s.heap.objs.size f cdv))) :
    SSs (cxOf (L2.CX P w) P w K mg base (["script", "nodes", "size", "edges", "k"] : List Str) "_law_world" (defScope (top 27)) f cdv A outer s H E) (defBody (top 27)) (B__law_world (callF tb n)) :=
    (sss_cons (ss_set (i := 1) sc__law_world.nd rfl (loc2 (by kernel_rfl)) (se_bin op_addA fits_add se_int (se_bin op_modN fits_mod (se_bltT call_intA fits_int rfl fx.b_int boot_int (sa_cons (se_bin op_addA fits_add (se_call rfl (fx.c__law_cell _ hr) (sa_cons (se_var (i := 0) rfl (vis2 (by kernel_rfl))) (sa_cons se_int sa_nil)) rfl (hlen := (len_cons (len_cons len_nil)))) se_int) sa_nil)) se_int)) rfl (.inl (by kernel_rfl)))
    (sss_cons (ss_set (i := 2) sc__law_world.nd rfl (loc1 (by kernel_rfl)) (se_bin op_modN fits_mod (se_bltT call_intA fits_int rfl fx.b_int boot_int (sa_cons (se_bin op_addA fits_add (se_call rfl (fx.c__law_cell _ hr) (sa_cons (se_var (i := 0) rfl (vis2 (by kernel_rfl))) (sa_cons se_int sa_nil)) rfl (hlen := (len_cons (len_cons len_nil)))) se_int) sa_nil)) se_int) rfl (.inr (by kernel_rfl)))
    (sss_cons (ss_if (st_cmp (op_eqD hr.units) fits_eq (se_bin op_modN fits_mod (se_bltT call_intA fits_int rfl fx.b_int boot_int (sa_cons (se_call rfl (fx.c__law_cell _ hr) (sa_cons (se_var (i := 0) rfl (vis2 (by kernel_rfl))) (sa_cons se_int sa_nil)) rfl (hlen := (len_cons (len_cons len_nil)))) sa_nil)) se_int) se_int)
    (sss_cons (ss_set (i := 1) sc__law_world.nd rfl (loc2 (by kernel_rfl)) (se_bin op_addA fits_add se_int (se_bin op_modN fits_mod (se_bltT call_intA fits_int rfl fx.b_int boot_int (sa_cons (se_call rfl (fx.c__law_cell _ hr) (sa_cons (se_var (i := 0) rfl (vis2 (by kernel_rfl))) (sa_cons se_int sa_nil)) rfl (hlen := (len_cons (len_cons len_nil)))) sa_nil)) se_int)) rfl (.inl (by kernel_rfl)))
    (sss_one (ss_set (i := 2) sc__law_world.nd rfl (loc1 (by kernel_rfl)) (se_bin op_addA fits_add se_int (se_bin op_modN fits_mod (se_bltT call_intA fits_int rfl fx.b_int boot_int (sa_cons (se_call rfl (fx.c__law_cell _ hr) (sa_cons (se_var (i := 0) rfl (vis2 (by kernel_rfl))) (sa_cons se_int sa_nil)) rfl (hlen := (len_cons (len_cons len_nil)))) sa_nil)) se_int)) rfl (.inr (by kernel_rfl)))))
    sss_nil)
    (sss_cons (ss_setLc (i := 3) (own := [("k", 4)]) rfl sc__law_world.nd rfl (by kernel_rfl) rfl (si_rg1 rfl fx.b_range (se_var (i := 2) rfl (vis1 (by kernel_rfl)))) (blkB_ok (by kernel_rfl)) (fun s H C cl fp => (sn_nm sc__law_world.nd rfl (loc1 (by kernel_rfl)) (.inr (by kernel_rfl)))) (fun s H C cl fp => sc_nil) (fun s H C cl fp => (se_call rfl (fx.c__law_edge _ hr) (sa_cons (se_call rfl (fx.c__law_cell _ hr) (sa_cons (se_var (i := 0) rfl (vis2 (by kernel_rfl))) (sa_cons (se_bin op_addA fits_add se_int (se_var (i := 4) rfl (vis1 (by kernel_rfl)))) sa_nil)) rfl (hlen := (len_cons (len_cons len_nil)))) (sa_cons (se_var (i := 4) rfl (vis1 (by kernel_rfl))) (sa_cons (se_var (i := 1) rfl (vis2 (by kernel_rfl))) sa_nil))) rfl (hlen := (len_cons (len_cons (len_cons len_nil)))))))
    (sss_one (ss_ret (se_tup (sds_cons (se_frz (i := 1) rfl (vis2 (by kernel_rfl))) (sds_cons (se_frz (i := 3) rfl (vis1 (by kernel_rfl))) sds_nil)))))))))
theorem sc__law_drawn_signs : FnScope (["cell", "size", "left", "signs", "k"] : List Str) (["cell", "size"] : List Str) (defScope (top 28)) := ⟨rfl, rfl, rfl, by decide +kernel, rfl, by decide +kernel, by decide +kernel⟩
theorem der__law_drawn_signs (fx : Fx P w K mg base n) (cdv : Value) (A : Around) (outer : List Env) (s : Shared) (H : Hp) (E : XK) (f : Addr) (hr : Room (2 * (n + 1) + 1) (A.deeper (envOfC "_law_drawn_signs" (defScope (top 28)) s.heap.objs.size f cdv))) :
    SSs (cxOf (L2.CX P w) P w K mg base (["cell", "size", "left", "signs", "k"] : List Str) "_law_drawn_signs" (defScope (top 28)) f cdv A outer s H E) (defBody (top 28)) (B__law_drawn_signs (callF tb n)) :=
    (sss_cons (ss_set (i := 2) sc__law_drawn_signs.nd rfl (loc1 (by kernel_rfl)) (se_frz (i := 0) rfl (vis1 (by kernel_rfl))) rfl (.inr (by kernel_rfl)))
    (sss_cons (ss_set (i := 3) sc__law_drawn_signs.nd rfl (loc1 (by kernel_rfl)) se_str rfl (.inr (by kernel_rfl)))
    (sss_cons (ss_for (passes_of rfl) rfl (si_rg1 rfl fx.b_range (se_var (i := 1) rfl (vis1 (by kernel_rfl)))) (sg_nm sc__law_drawn_signs.nd rfl (loc1 (by kernel_rfl)) (.inr (by kernel_rfl)))
    (sss_cons (ss_set (i := 3) sc__law_drawn_signs.nd rfl (loc1 (by kernel_rfl)) (se_bin op_addA fits_add (se_var (i := 3) rfl (vis1 (by kernel_rfl))) (se_ix se_str (se_bin op_modN fits_mod (se_bltT call_intA fits_int rfl fx.b_int boot_int (sa_cons (se_bin op_addA fits_add (se_var (i := 2) rfl (vis1 (by kernel_rfl))) (se_bin op_fdivA fits_fdiv (se_var (i := 4) rfl (vis1 (by kernel_rfl))) se_int)) sa_nil)) se_int))) rfl (.inr (by kernel_rfl)))
    (sss_one (ss_set (i := 2) sc__law_drawn_signs.nd rfl (loc1 (by kernel_rfl)) (se_bin op_fdivA fits_fdiv (se_var (i := 2) rfl (vis1 (by kernel_rfl))) se_int) rfl (.inr (by kernel_rfl))))))
    (sss_one (ss_ret (se_mv (i := 3) rfl (vis1 (by kernel_rfl))))))))
theorem sc__law_drawn_order : FnScope (["cell", "size", "left", "order", "rest", "k", "pick"] : List Str) (["cell", "size"] : List Str) (defScope (top 29)) := ⟨rfl, rfl, rfl, by decide +kernel, rfl, by decide +kernel, by decide +kernel⟩
theorem der__law_drawn_order (fx : Fx P w K mg base n) (cdv : Value) (A : Around) (outer : List Env) (s : Shared) (H : Hp) (E : XK) (f : Addr) (hr : Room (2 * (n + 1) + 1) (A.deeper (envOfC "_law_drawn_order" (defScope (top 29)) s.heap.objs.size f cdv))) :
    SSs (cxOf (L2.CX P w) P w K mg base (["cell", "size", "left", "order", "rest", "k", "pick"] : List Str) "_law_drawn_order" (defScope (top 29)) f cdv A outer s H E) (defBody (top 29)) (B__law_drawn_order (callF tb n)) :=
    (sss_cons (ss_set (i := 2) sc__law_drawn_order.nd rfl (loc1 (by kernel_rfl)) (se_lrg1 rfl rfl fx.b_list rfl fx.b_range (se_var (i := 1) rfl (vis1 (by kernel_rfl)))) rfl (.inr (by kernel_rfl)))
    (sss_cons (ss_set (i := 3) sc__law_drawn_order.nd rfl (loc1 (by kernel_rfl)) (se_lst sds_nil) rfl (.inr (by kernel_rfl)))
    (sss_cons (ss_set (i := 4) sc__law_drawn_order.nd rfl (loc1 (by kernel_rfl)) (se_frz (i := 0) rfl (vis1 (by kernel_rfl))) rfl (.inr (by kernel_rfl)))
    (sss_cons (ss_for (passes_of rfl) rfl (si_rg1 rfl fx.b_range (se_var (i := 1) rfl (vis1 (by kernel_rfl)))) (sg_nm sc__law_drawn_order.nd rfl (loc1 (by kernel_rfl)) (.inr (by kernel_rfl)))
    (sss_cons (ss_set (i := 6) sc__law_drawn_order.nd rfl (loc1 (by kernel_rfl)) (se_bin op_modN fits_mod (se_bltT call_intA fits_int rfl fx.b_int boot_int (sa_cons (se_bin op_addA fits_add (se_var (i := 4) rfl (vis1 (by kernel_rfl))) se_int) sa_nil)) (se_blt call_len fits_len rfl fx.b_len boot_len (sa_cons (se_var (i := 2) rfl (vis1 (by kernel_rfl))) sa_nil))) rfl (.inr (by kernel_rfl)))
    (sss_cons (ss_app (i := 3) rfl (vis1 (by kernel_rfl)) (se_ix (se_var (i := 2) rfl (vis1 (by kernel_rfl))) (se_var (i := 6) rfl (vis1 (by kernel_rfl)))))
    (sss_cons (ss_set (i := 2) sc__law_drawn_order.nd rfl (loc1 (by kernel_rfl)) (se_bin op_addA fits_add (se_sl (se_var (i := 2) rfl (vis1 (by kernel_rfl))) so_none (so_some (se_var (i := 6) rfl (vis1 (by kernel_rfl))))) (se_sl (se_var (i := 2) rfl (vis1 (by kernel_rfl))) (so_some (se_bin op_addA fits_add (se_var (i := 6) rfl (vis1 (by kernel_rfl))) se_int)) so_none)) rfl (.inr (by kernel_rfl)))
    (sss_one (ss_set (i := 4) sc__law_drawn_order.nd rfl (loc1 (by kernel_rfl)) (se_bin op_fdivA fits_fdiv (se_var (i := 4) rfl (vis1 (by kernel_rfl))) se_int) rfl (.inr (by kernel_rfl))))))))
    (sss_one (ss_ret (se_mv (i := 3) rfl (vis1 (by kernel_rfl)))))))))
theorem sc__law_arrows_of : FnScope (["edges", "direction", "arrows", "k", "first", "second"] : List Str) (["edges", "direction"] : List Str) (defScope (top 30)) := ⟨rfl, rfl, rfl, by decide +kernel, rfl, by decide +kernel, by decide +kernel⟩
theorem der__law_arrows_of (fx : Fx P w K mg base n) (cdv : Value) (A : Around) (outer : List Env) (s : Shared) (H : Hp) (E : XK) (f : Addr) (hr : Room (2 * (n + 1) + 1) (A.deeper (envOfC "_law_arrows_of" (defScope (top 30)) s.heap.objs.size f cdv))) :
    SSs (cxOf (L2.CX P w) P w K mg base (["edges", "direction", "arrows", "k", "first", "second"] : List Str) "_law_arrows_of" (defScope (top 30)) f cdv A outer s H E) (defBody (top 30)) (B__law_arrows_of (callF tb n)) :=
    (sss_cons (ss_set (i := 2) sc__law_arrows_of.nd rfl (loc1 (by kernel_rfl)) (se_lst sds_nil) rfl (.inr (by kernel_rfl)))
    (sss_cons (ss_for (passes_of rfl) rfl (si_rg1 rfl fx.b_range (se_blt call_len fits_len rfl fx.b_len boot_len (sa_cons (se_var (i := 0) rfl (vis1 (by kernel_rfl))) sa_nil))) (sg_nm sc__law_arrows_of.nd rfl (loc1 (by kernel_rfl)) (.inr (by kernel_rfl)))
    (sss_cons (ss_setT (sd_v (se_ix (se_var (i := 0) rfl (vis1 (by kernel_rfl))) (se_var (i := 3) rfl (vis1 (by kernel_rfl))))) (sg_tup rfl (sgs_cons (sg_nm sc__law_arrows_of.nd rfl (loc1 (by kernel_rfl)) (.inr (by kernel_rfl))) (sgs_cons (sg_nm sc__law_arrows_of.nd rfl (loc1 (by kernel_rfl)) (.inr (by kernel_rfl))) sgs_nil))))
    (sss_one (ss_if (st_cmp (op_eqD hr.units) fits_eq (se_ix (se_var (i := 1) rfl (vis1 (by kernel_rfl))) (se_var (i := 3) rfl (vis1 (by kernel_rfl)))) se_str)
    (sss_one (ss_app (i := 2) rfl (vis1 (by kernel_rfl)) (se_tup (sds_cons (se_frz (i := 4) rfl (vis1 (by kernel_rfl))) (sds_cons (se_frz (i := 5) rfl (vis1 (by kernel_rfl))) sds_nil)))))
    (sss_one (ss_app (i := 2) rfl (vis1 (by kernel_rfl)) (se_tup (sds_cons (se_frz (i := 5) rfl (vis1 (by kernel_rfl))) (sds_cons (se_frz (i := 4) rfl (vis1 (by kernel_rfl))) sds_nil)))))))))
    (sss_one (ss_ret (se_mv (i := 2) rfl (vis1 (by kernel_rfl)))))))
theorem sc__law_along : FnScope (["edges", "order", "signs", "first", "second"] : List Str) (["edges", "order"] : List Str) (defScope (top 31)) := ⟨rfl, rfl, rfl, by decide +kernel, rfl, by decide +kernel, by decide +kernel⟩
theorem der__law_along (fx : Fx P w K mg base n) (cdv : Value) (A : Around) (outer : List Env) (s : Shared) (H : Hp) (E : XK) (f : Addr) (hr : Room (2 * (n + 1) + 1) (A.deeper (envOfC "_law_along" (defScope (top 31)) s.heap.objs.size f cdv))) :
    SSs (cxOf (L2.CX P w) P w K mg base (["edges", "order", "signs", "first", "second"] : List Str) "_law_along" (defScope (top 31)) f cdv A outer s H E) (defBody (top 31)) (B__law_along (callF tb n)) :=
    (sss_cons (ss_set (i := 2) sc__law_along.nd rfl (loc1 (by kernel_rfl)) se_str rfl (.inr (by kernel_rfl)))
    (sss_cons (ss_lock (ss_for (passes_of rfl) rfl (si_varY (i := 0) rfl (vis1 (by kernel_rfl))) (sg_tup rfl (sgs_cons (sg_nm sc__law_along.nd rfl (loc1 (by kernel_rfl)) (.inr (by kernel_rfl))) (sgs_cons (sg_nm sc__law_along.nd rfl (loc1 (by kernel_rfl)) (.inr (by kernel_rfl))) sgs_nil)))
    (sss_one (ss_if (st_cmp op_lt fits_cmpI (se_index (se_var (i := 1) rfl (vis1 (by kernel_rfl))) (sa_cons (se_var (i := 3) rfl (vis1 (by kernel_rfl))) sa_nil)) (se_index (se_var (i := 1) rfl (vis1 (by kernel_rfl))) (sa_cons (se_var (i := 4) rfl (vis1 (by kernel_rfl))) sa_nil)))
    (sss_one (ss_set (i := 2) sc__law_along.nd rfl (loc1 (by kernel_rfl)) (se_bin op_addA fits_add (se_var (i := 2) rfl (vis1 (by kernel_rfl))) se_str) rfl (.inr (by kernel_rfl))))
    (sss_one (ss_set (i := 2) sc__law_along.nd rfl (loc1 (by kernel_rfl)) (se_bin op_addA fits_add (se_var (i := 2) rfl (vis1 (by kernel_rfl))) se_str) rfl (.inr (by kernel_rfl))))))))
    (sss_one (ss_ret (se_mv (i := 2) rfl (vis1 (by kernel_rfl)))))))
theorem sc__law_ring_of : FnScope (["order", "cell", "many", "left", "edges", "signs", "k", "one", "two"] : List Str) (["order", "cell"] : List Str) (defScope (top 32)) := ⟨rfl, rfl, rfl, by decide +kernel, rfl, by decide +kernel, by decide +kernel⟩
theorem der__law_ring_of (fx : Fx P w K mg base n) (cdv : Value) (A : Around) (outer : List Env) (s : Shared) (H : Hp) (E : XK) (f : Addr) (hr : Room (2 * (n + 1) + 1) (A.deeper (envOfC "_law_ring_of" (defScope (top 32)) s.heap.objs.size f cdv))) :
    SSs (cxOf (L2.CX P w) P w K mg base (["order", "cell", "many", "left", "edges", "signs", "k", "one", "two"] : List Str) "_law_ring_of" (defScope (top 32)) f cdv A outer s H E) (defBody (top 32)) (B__law_ring_of (callF tb n)) :=
    (sss_cons (ss_set (i := 2) sc__law_ring_of.nd rfl (loc1 (by kernel_rfl)) (se_bin op_addA fits_add se_int (se_bin op_modN fits_mod (se_bltT call_intA fits_int rfl fx.b_int boot_int (sa_cons (se_bin op_addA fits_add (se_var (i := 1) rfl (vis1 (by kernel_rfl))) se_int) sa_nil)) (se_blt call_len fits_len rfl fx.b_len boot_len (sa_cons (se_var (i := 0) rfl (vis1 (by kernel_rfl))) sa_nil)))) rfl (.inr (by kernel_rfl)))
    (sss_cons (ss_set (i := 3) sc__law_ring_of.nd rfl (loc1 (by kernel_rfl)) (se_bin op_fdivA fits_fdiv (se_var (i := 1) rfl (vis1 (by kernel_rfl))) se_int) rfl (.inr (by kernel_rfl)))
    (sss_cons (ss_set (i := 4) sc__law_ring_of.nd rfl (loc1 (by kernel_rfl)) (se_lst sds_nil) rfl (.inr (by kernel_rfl)))
    (sss_cons (ss_set (i := 5) sc__law_ring_of.nd rfl (loc1 (by kernel_rfl)) se_str rfl (.inr (by kernel_rfl)))
    (sss_cons (ss_for (passes_of rfl) rfl (si_rg1 rfl fx.b_range (se_var (i := 2) rfl (vis1 (by kernel_rfl)))) (sg_nm sc__law_ring_of.nd rfl (loc1 (by kernel_rfl)) (.inr (by kernel_rfl)))
    (sss_cons (ss_set (i := 7) sc__law_ring_of.nd rfl (loc1 (by kernel_rfl)) (se_ix (se_var (i := 0) rfl (vis1 (by kernel_rfl))) (se_var (i := 6) rfl (vis1 (by kernel_rfl)))) rfl (.inr (by kernel_rfl)))
    (sss_cons (ss_set (i := 8) sc__law_ring_of.nd rfl (loc1 (by kernel_rfl)) (se_ix (se_var (i := 0) rfl (vis1 (by kernel_rfl))) (se_bin op_modN fits_mod (se_bltT call_intA fits_int rfl fx.b_int boot_int (sa_cons (se_bin op_addA fits_add (se_var (i := 6) rfl (vis1 (by kernel_rfl))) se_int) sa_nil)) (se_var (i := 2) rfl (vis1 (by kernel_rfl))))) rfl (.inr (by kernel_rfl)))
    (sss_cons (ss_if (st_cmp (op_eqD hr.units) fits_eq (se_bin op_modN fits_mod (se_bltT call_intA fits_int rfl fx.b_int boot_int (sa_cons (se_var (i := 3) rfl (vis1 (by kernel_rfl))) sa_nil)) se_int) se_int)
    (sss_cons (ss_app (i := 4) rfl (vis1 (by kernel_rfl)) (se_tup (sds_cons (se_frz (i := 8) rfl (vis1 (by kernel_rfl))) (sds_cons (se_frz (i := 7) rfl (vis1 (by kernel_rfl))) sds_nil))))
    (sss_one (ss_set (i := 5) sc__law_ring_of.nd rfl (loc1 (by kernel_rfl)) (se_bin op_addA fits_add (se_var (i := 5) rfl (vis1 (by kernel_rfl))) se_str) rfl (.inr (by kernel_rfl)))))
    (sss_cons (ss_app (i := 4) rfl (vis1 (by kernel_rfl)) (se_tup (sds_cons (se_frz (i := 7) rfl (vis1 (by kernel_rfl))) (sds_cons (se_frz (i := 8) rfl (vis1 (by kernel_rfl))) sds_nil))))
    (sss_one (ss_set (i := 5) sc__law_ring_of.nd rfl (loc1 (by kernel_rfl)) (se_bin op_addA fits_add (se_var (i := 5) rfl (vis1 (by kernel_rfl))) se_str) rfl (.inr (by kernel_rfl))))))
    (sss_one (ss_set (i := 3) sc__law_ring_of.nd rfl (loc1 (by kernel_rfl)) (se_bin op_fdivA fits_fdiv (se_var (i := 3) rfl (vis1 (by kernel_rfl))) se_int) rfl (.inr (by kernel_rfl))))))))
    (sss_one (ss_ret (se_tup (sds_cons (se_frz (i := 4) rfl (vis1 (by kernel_rfl))) (sds_cons (se_frz (i := 5) rfl (vis1 (by kernel_rfl))) sds_nil))))))))))
theorem sc__law_reach_of : FnScope (["nodes", "arrows", "reach", "k", "tail", "head"] : List Str) (["nodes", "arrows"] : List Str) (defScope (top 33)) := ⟨rfl, rfl, rfl, by decide +kernel, rfl, by decide +kernel, by decide +kernel⟩
theorem der__law_reach_of (fx : Fx P w K mg base n) (cdv : Value) (A : Around) (outer : List Env) (s : Shared) (H : Hp) (E : XK) (f : Addr) (hr : Room (2 * (n + 1) + 1) (A.deeper (envOfC "_law_reach_of" (defScope (top 33)) s.heap.objs.size f cdv))) :
    SSs (cxOf (L2.CX P w) P w K mg base (["nodes", "arrows", "reach", "k", "tail", "head"] : List Str) "_law_reach_of" (defScope (top 33)) f cdv A outer s H E) (defBody (top 33)) (B__law_reach_of (callF tb n)) :=
    (sss_cons (ss_setLc (i := 2) (own := [("k", 3)]) rfl sc__law_reach_of.nd rfl (by kernel_rfl) rfl (si_rg1 rfl fx.b_range (se_var (i := 0) rfl (vis1 (by kernel_rfl)))) (blkB_ok (by kernel_rfl)) (fun s H C cl fp => (sn_nm sc__law_reach_of.nd rfl (loc1 (by kernel_rfl)) (.inr (by kernel_rfl)))) (fun s H C cl fp => sc_nil) (fun s H C cl fp => (se_bin op_shl fits_shl se_int (se_var (i := 3) rfl (vis1 (by kernel_rfl))))))
    (sss_cons (ss_for (passes_of rfl) rfl (si_rg1 rfl fx.b_range (se_var (i := 0) rfl (vis1 (by kernel_rfl)))) (sg_nm sc__law_reach_of.nd rfl (loc1 (by kernel_rfl)) (.inr (by kernel_rfl)))
    (sss_one (ss_lock (ss_for (passes_of rfl) rfl (si_varY (i := 1) rfl (vis1 (by kernel_rfl))) (sg_tup rfl (sgs_cons (sg_nm sc__law_reach_of.nd rfl (loc1 (by kernel_rfl)) (.inr (by kernel_rfl))) (sgs_cons (sg_nm sc__law_reach_of.nd rfl (loc1 (by kernel_rfl)) (.inr (by kernel_rfl))) sgs_nil)))
    (sss_one (ss_setT (sd_v (se_bin op_or fits_or (se_ix (se_var (i := 2) rfl (vis1 (by kernel_rfl))) (se_var (i := 4) rfl (vis1 (by kernel_rfl)))) (se_ix (se_var (i := 2) rfl (vis1 (by kernel_rfl))) (se_var (i := 5) rfl (vis1 (by kernel_rfl)))))) (sg_sub (i := 2) rfl (vis1 (by kernel_rfl)) (se_var (i := 4) rfl (vis1 (by kernel_rfl))))))))))
    (sss_one (ss_ret (se_mv (i := 2) rfl (vis1 (by kernel_rfl)))))))
theorem sc__law_has_round : FnScope (["nodes", "arrows", "reach", "back", "tail", "head"] : List Str) (["nodes", "arrows"] : List Str) (defScope (top 34)) := ⟨rfl, rfl, rfl, by decide +kernel, rfl, by decide +kernel, by decide +kernel⟩
theorem der__law_has_round (fx : Fx P w K mg base n) (cdv : Value) (A : Around) (outer : List Env) (s : Shared) (H : Hp) (E : XK) (f : Addr) (hr : Room (2 * (n + 1) + 1) (A.deeper (envOfC "_law_has_round" (defScope (top 34)) s.heap.objs.size f cdv))) :
    SSs (cxOf (L2.CX P w) P w K mg base (["nodes", "arrows", "reach", "back", "tail", "head"] : List Str) "_law_has_round" (defScope (top 34)) f cdv A outer s H E) (defBody (top 34)) (B__law_has_round (callF tb n)) :=
    (sss_cons (ss_set (i := 2) sc__law_has_round.nd rfl (loc2 (by kernel_rfl)) (se_call rfl (fx.c__law_reach_of _ hr) (sa_cons (se_var (i := 0) rfl (vis1 (by kernel_rfl))) (sa_cons (se_var (i := 1) rfl (vis1 (by kernel_rfl))) sa_nil)) rfl (hlen := (len_cons (len_cons len_nil)))) rfl (.inl (by kernel_rfl)))
    (sss_cons (ss_lock (ss_setLc (i := 3) (own := [("tail", 4), ("head", 5)]) rfl sc__law_has_round.nd rfl (by kernel_rfl) rfl (si_varY (i := 1) rfl (vis1 (by kernel_rfl))) (blkB_ok (by kernel_rfl)) (fun s H C cl fp => (sn_tup rfl (sns_cons (sn_nm sc__law_has_round.nd rfl (loc1 (by kernel_rfl)) (.inr (by kernel_rfl))) (sns_cons (sn_nm sc__law_has_round.nd rfl (loc1 (by kernel_rfl)) (.inr (by kernel_rfl))) sns_nil)))) (fun s H C cl fp => (sc_one (st_cmp (op_eqD hr.units) fits_eq (se_bin op_and fits_and (se_bin op_shr fits_shr (se_ix (se_var (i := 2) rfl (vis2 (by kernel_rfl))) (se_var (i := 5) rfl (vis1 (by kernel_rfl)))) (se_var (i := 4) rfl (vis1 (by kernel_rfl)))) se_int) se_int))) (fun s H C cl fp => se_int)))
    (sss_one (ss_ret (se_cmp op_gt fits_cmpI (se_blt call_len fits_len rfl fx.b_len boot_len (sa_cons (se_var (i := 3) rfl (vis1 (by kernel_rfl))) sa_nil)) se_int)))))
theorem sc__law_is_order : FnScope (["nodes", "arrows", "row", "tail", "head"] : List Str) (["nodes", "arrows", "row"] : List Str) (defScope (top 35)) := ⟨rfl, rfl, rfl, by decide +kernel, rfl, by decide +kernel, by decide +kernel⟩
theorem der__law_is_order (fx : Fx P w K mg base n) (cdv : Value) (A : Around) (outer : List Env) (s : Shared) (H : Hp) (E : XK) (f : Addr) (hr : Room (2 * (n + 1) + 1) (A.deeper (envOfC "_law_is_order" (defScope (top 35)) s.heap.objs.size f cdv))) :
    SSs (cxOf (L2.CX P w) P w K mg base (["nodes", "arrows", "row", "tail", "head"] : List Str) "_law_is_order" (defScope (top 35)) f cdv A outer s H E) (defBody (top 35)) (B__law_is_order (callF tb n)) :=
    (sss_cons (ss_if (st_cmp (op_neD hr.units) fits_ne (se_blt cr_sortY fits_sortY rfl fx.b_sorted boot_sorted (sa_cons (se_var (i := 2) rfl (vis1 (by kernel_rfl))) sa_nil)) (se_lrg1 rfl rfl fx.b_list rfl fx.b_range (se_var (i := 0) rfl (vis1 (by kernel_rfl)))))
    (sss_one (ss_ret se_bl))
    sss_nil)
    (sss_cons (ss_lock (ss_for (passes_of rfl) rfl (si_varY (i := 1) rfl (vis1 (by kernel_rfl))) (sg_tup rfl (sgs_cons (sg_nm sc__law_is_order.nd rfl (loc1 (by kernel_rfl)) (.inr (by kernel_rfl))) (sgs_cons (sg_nm sc__law_is_order.nd rfl (loc1 (by kernel_rfl)) (.inr (by kernel_rfl))) sgs_nil)))
    (sss_one (ss_if (st_cmp op_ge fits_cmpI (se_index (se_var (i := 2) rfl (vis1 (by kernel_rfl))) (sa_cons (se_var (i := 3) rfl (vis1 (by kernel_rfl))) sa_nil)) (se_index (se_var (i := 2) rfl (vis1 (by kernel_rfl))) (sa_cons (se_var (i := 4) rfl (vis1 (by kernel_rfl))) sa_nil)))
    (sss_one (ss_ret se_bl))
    sss_nil))))
    (sss_one (ss_ret se_bl))))
theorem sc__law_is_round : FnScope (["arrows", "row", "tails", "k", "follower"] : List Str) (["arrows", "row"] : List Str) (defScope (top 36)) := ⟨rfl, rfl, rfl, by decide +kernel, rfl, by decide +kernel, by decide +kernel⟩
theorem der__law_is_round (fx : Fx P w K mg base n) (cdv : Value) (A : Around) (outer : List Env) (s : Shared) (H : Hp) (E : XK) (f : Addr) (hr : Room (2 * (n + 1) + 1) (A.deeper (envOfC "_law_is_round" (defScope (top 36)) s.heap.objs.size f cdv))) :
    SSs (cxOf (L2.CX P w) P w K mg base (["arrows", "row", "tails", "k", "follower"] : List Str) "_law_is_round" (defScope (top 36)) f cdv A outer s H E) (defBody (top 36)) (B__law_is_round (callF tb n)) :=
    (sss_cons (ss_set (i := 2) sc__law_is_round.nd rfl (loc1 (by kernel_rfl)) (se_lst sds_nil) rfl (.inr (by kernel_rfl)))
    (sss_cons (ss_for (passes_of rfl) rfl (si_rg1 rfl fx.b_range (se_blt call_len fits_len rfl fx.b_len boot_len (sa_cons (se_var (i := 1) rfl (vis1 (by kernel_rfl))) sa_nil))) (sg_nm sc__law_is_round.nd rfl (loc1 (by kernel_rfl)) (.inr (by kernel_rfl)))
    (sss_one (ss_if (st_not (st_chain op_le op_lt fits_cmpI fits_cmpI se_int (se_ix (se_var (i := 1) rfl (vis1 (by kernel_rfl))) (se_var (i := 3) rfl (vis1 (by kernel_rfl)))) (se_blt call_len fits_len rfl fx.b_len boot_len (sa_cons (se_var (i := 0) rfl (vis1 (by kernel_rfl))) sa_nil))))
    (sss_one (ss_ret se_bl))
    sss_nil)))
    (sss_cons (ss_for (passes_of rfl) rfl (si_rg1 rfl fx.b_range (se_blt call_len fits_len rfl fx.b_len boot_len (sa_cons (se_var (i := 1) rfl (vis1 (by kernel_rfl))) sa_nil))) (sg_nm sc__law_is_round.nd rfl (loc1 (by kernel_rfl)) (.inr (by kernel_rfl)))
    (sss_cons (ss_set (i := 4) sc__law_is_round.nd rfl (loc1 (by kernel_rfl)) (se_ix (se_var (i := 1) rfl (vis1 (by kernel_rfl))) (se_bin op_modN fits_mod (se_bltT call_intA fits_int rfl fx.b_int boot_int (sa_cons (se_bin op_addA fits_add (se_var (i := 3) rfl (vis1 (by kernel_rfl))) se_int) sa_nil)) (se_blt call_len fits_len rfl fx.b_len boot_len (sa_cons (se_var (i := 1) rfl (vis1 (by kernel_rfl))) sa_nil)))) rfl (.inr (by kernel_rfl)))
    (sss_cons (ss_if (st_cmp (op_neD hr.units) fits_ne (se_ix (se_ix (se_var (i := 0) rfl (vis1 (by kernel_rfl))) (se_ix (se_var (i := 1) rfl (vis1 (by kernel_rfl))) (se_var (i := 3) rfl (vis1 (by kernel_rfl))))) se_int) (se_ix (se_ix (se_var (i := 0) rfl (vis1 (by kernel_rfl))) (se_var (i := 4) rfl (vis1 (by kernel_rfl)))) se_int))
    (sss_one (ss_ret se_bl))
    sss_nil)
    (sss_cons (ss_if (st_cmp (op_in (units_ok hr)) fits_in (se_ix (se_ix (se_var (i := 0) rfl (vis1 (by kernel_rfl))) (se_ix (se_var (i := 1) rfl (vis1 (by kernel_rfl))) (se_var (i := 3) rfl (vis1 (by kernel_rfl))))) se_int) (se_var (i := 2) rfl (vis1 (by kernel_rfl))))
    (sss_one (ss_ret se_bl))
    sss_nil)
    (sss_one (ss_app (i := 2) rfl (vis1 (by kernel_rfl)) (se_ix (se_ix (se_var (i := 0) rfl (vis1 (by kernel_rfl))) (se_ix (se_var (i := 1) rfl (vis1 (by kernel_rfl))) (se_var (i := 3) rfl (vis1 (by kernel_rfl))))) se_int)))))))
    (sss_one (ss_ret (se_cmp op_gt fits_cmpI (se_blt call_len fits_len rfl fx.b_len boot_len (sa_cons (se_var (i := 1) rfl (vis1 (by kernel_rfl))) sa_nil)) se_int))))))
theorem sc__law_plain_row : FnScope (["told", "number"] : List Str) (["told"] : List Str) (defScope (top 37)) := ⟨rfl, rfl, rfl, by decide +kernel, rfl, by decide +kernel, by decide +kernel⟩
theorem der__law_plain_row (fx : Fx P w K mg base n) (cdv : Value) (A : Around) (outer : List Env) (s : Shared) (H : Hp) (E : XK) (f : Addr) (hr : Room (2 * (n + 1) + 1) (A.deeper (envOfC "_law_plain_row" (defScope (top 37)) s.heap.objs.size f cdv))) :
    SSs (cxOf (L2.CX P w) P w K mg base (["told", "number"] : List Str) "_law_plain_row" (defScope (top 37)) f cdv A outer s H E) (defBody (top 37)) (B__law_plain_row (callF tb n)) :=
    (sss_cons (ss_if (st_not (st_tr (se_isi (T := "tuple") (se_var (i := 0) rfl (vis1 (by kernel_rfl))) rfl fx.b_isinstance rfl fx.b_tuple boot_tuple)))
    (sss_one (ss_ret se_bl))
    sss_nil)
    (sss_cons (ss_lock (ss_for (passes_of rfl) rfl (si_varY (i := 0) rfl (vis1 (by kernel_rfl))) (sg_nm sc__law_plain_row.nd rfl (loc1 (by kernel_rfl)) (.inr (by kernel_rfl)))
    (sss_one (ss_if (st_w (sw_or (st_not (st_tr (se_isi (T := "int") (se_var (i := 1) rfl (vis1 (by kernel_rfl))) rfl fx.b_isinstance rfl fx.b_int boot_int))) (sw_or1 (st_tr (se_isi (T := "bool") (se_var (i := 1) rfl (vis1 (by kernel_rfl))) rfl fx.b_isinstance rfl fx.b_bool boot_bool)))))
    (sss_one (ss_ret se_bl))
    sss_nil))))
    (sss_one (ss_ret se_bl))))
theorem sc__law_paper : FnScope (["graph", "nodes", "arrows", "direction", "due", "told", "row", "good"] : List Str) (["graph", "nodes", "arrows", "direction"] : List Str) (defScope (top 38)) := ⟨rfl, rfl, rfl, by decide +kernel, rfl, by decide +kernel, by decide +kernel⟩
theorem der__law_paper (fx : Fx P w K mg base n) (cdv : Value) (A : Around) (outer : List Env) (s : Shared) (H : Hp) (E : XK) (f : Addr) (hr : Room (2 * (n + 1) + 1) (A.deeper (envOfC "_law_paper" (defScope (top 38)) s.heap.objs.size f cdv))) :
    SSs (cxOf (L2.CX P w) P w K mg base (["graph", "nodes", "arrows", "direction", "due", "told", "row", "good"] : List Str) "_law_paper" (defScope (top 38)) f cdv A outer s H E) (defBody (top 38)) (B__law_paper (callF tb n)) :=
    (sss_cons (ss_set (i := 4) sc__law_paper.nd rfl (loc1 (by kernel_rfl)) se_str rfl (.inr (by kernel_rfl)))
    (sss_cons (ss_if (st_tr (se_call rfl (fx.c__law_has_round _ hr) (sa_cons (se_var (i := 1) rfl (vis1 (by kernel_rfl))) (sa_cons (se_var (i := 2) rfl (vis1 (by kernel_rfl))) sa_nil)) rfl (hlen := (len_cons (len_cons len_nil)))))
    (sss_one (ss_set (i := 4) sc__law_paper.nd rfl (loc1 (by kernel_rfl)) se_str rfl (.inr (by kernel_rfl))))
    sss_nil)
    (sss_cons (ss_set (i := 5) sc__law_paper.nd rfl (loc1 (by kernel_rfl)) (se_call rfl (fx.c_order_paper _ hr) (sa_cons (se_var (i := 0) rfl (vis1 (by kernel_rfl))) (sa_cons (se_frz (i := 3) rfl (vis1 (by kernel_rfl))) sa_nil)) rfl (hlen := (len_cons (len_cons len_nil)))) rfl (.inr (by kernel_rfl)))
    (sss_cons (ss_if (st_w (sw_or (st_not (st_tr (se_isi (T := "tuple") (se_var (i := 5) rfl (vis1 (by kernel_rfl))) rfl fx.b_isinstance rfl fx.b_tuple boot_tuple))) (sw_or1 (st_cmp (op_neD hr.units) fits_ne (se_blt call_len fits_len rfl fx.b_len boot_len (sa_cons (se_var (i := 5) rfl (vis1 (by kernel_rfl))) sa_nil)) se_int))))
    (sss_one (ss_ret se_bl))
    sss_nil)
    (sss_cons (ss_if (st_w (sw_or (st_not (st_tr (se_call rfl (fx.c__law_alike _ hr) (sa_cons (se_ix (se_var (i := 5) rfl (vis1 (by kernel_rfl))) se_int) (sa_cons (se_var (i := 4) rfl (vis1 (by kernel_rfl))) sa_nil)) rfl (hlen := (len_cons (len_cons len_nil)))))) (sw_or1 (st_not (st_tr (se_call rfl (fx.c__law_plain_row _ hr) (sa_cons (se_ix (se_var (i := 5) rfl (vis1 (by kernel_rfl))) se_int) sa_nil) rfl (hlen := (len_cons len_nil))))))))
    (sss_one (ss_ret se_bl))
    sss_nil)
    (sss_cons (ss_set (i := 6) sc__law_paper.nd rfl (loc1 (by kernel_rfl)) (se_bltT call_list_of fits_list rfl fx.b_list boot_list (sa_cons (se_ix (se_var (i := 5) rfl (vis1 (by kernel_rfl))) se_int) sa_nil)) rfl (.inr (by kernel_rfl)))
    (sss_cons (ss_if (st_cmp (op_eqD hr.units) fits_eq (se_var (i := 4) rfl (vis1 (by kernel_rfl))) se_str)
    (sss_cons (ss_set (i := 7) sc__law_paper.nd rfl (loc1 (by kernel_rfl)) (se_call rfl (fx.c__law_is_order _ hr) (sa_cons (se_var (i := 1) rfl (vis1 (by kernel_rfl))) (sa_cons (se_var (i := 2) rfl (vis1 (by kernel_rfl))) (sa_cons (se_var (i := 6) rfl (vis1 (by kernel_rfl))) sa_nil))) rfl (hlen := (len_cons (len_cons (len_cons len_nil))))) rfl (.inr (by kernel_rfl)))
    (sss_one (ss_ret (se_andV (se_mv (i := 7) rfl (vis1 (by kernel_rfl))) (se_one (se_cmp op_is_bl fits_isB (se_call rfl (fx.c_shows_order _ hr) (sa_cons (se_var (i := 0) rfl (vis1 (by kernel_rfl))) (sa_cons (se_frz (i := 3) rfl (vis1 (by kernel_rfl))) (sa_cons (se_ix (se_var (i := 5) rfl (vis1 (by kernel_rfl))) se_int) sa_nil))) rfl (hlen := (len_cons (len_cons (len_cons len_nil))))) se_bl))))))
    sss_nil)
    (sss_cons (ss_set (i := 7) sc__law_paper.nd rfl (loc1 (by kernel_rfl)) (se_call rfl (fx.c__law_is_round _ hr) (sa_cons (se_var (i := 2) rfl (vis1 (by kernel_rfl))) (sa_cons (se_var (i := 6) rfl (vis1 (by kernel_rfl))) sa_nil)) rfl (hlen := (len_cons (len_cons len_nil)))) rfl (.inr (by kernel_rfl)))
    (sss_one (ss_ret (se_andV (se_mv (i := 7) rfl (vis1 (by kernel_rfl))) (se_one (se_cmp op_is_bl fits_isB (se_call rfl (fx.c_shows_round _ hr) (sa_cons (se_var (i := 0) rfl (vis1 (by kernel_rfl))) (sa_cons (se_frz (i := 3) rfl (vis1 (by kernel_rfl))) (sa_cons (se_ix (se_var (i := 5) rfl (vis1 (by kernel_rfl))) se_int) sa_nil))) rfl (hlen := (len_cons (len_cons (len_cons len_nil))))) se_bl)))))))))))))
theorem sc__law_bent_orders : FnScope (["nodes", "row", "cell", "at", "to", "swapped", "double", "rows", "odd"] : List Str) (["nodes", "row", "cell"] : List Str) (defScope (top 39)) := ⟨rfl, rfl, rfl, by decide +kernel, rfl, by decide +kernel, by decide +kernel⟩
theorem der__law_bent_orders (fx : Fx P w K mg base n) (cdv : Value) (A : Around) (outer : List Env) (s : Shared) (H : Hp) (E : XK) (f : Addr) (hr : Room (2 * (n + 1) + 1) (A.deeper (envOfC "_law_bent_orders" (defScope (top 39)) s.heap.objs.size f cdv))) :
    SSs (cxOf (L2.CX P w) P w K mg base (["nodes", "row", "cell", "at", "to", "swapped", "double", "rows", "odd"] : List Str) "_law_bent_orders" (defScope (top 39)) f cdv A outer s H E) (defBody (top 39)) (B__law_bent_orders (callF tb n)) :=
    (sss_cons (ss_set (i := 3) sc__law_bent_orders.nd rfl (loc1 (by kernel_rfl)) (se_bin op_modN fits_mod (se_bltT call_intA fits_int rfl fx.b_int boot_int (sa_cons (se_var (i := 2) rfl (vis1 (by kernel_rfl))) sa_nil)) (se_var (i := 0) rfl (vis1 (by kernel_rfl)))) rfl (.inr (by kernel_rfl)))
    (sss_cons (ss_set (i := 4) sc__law_bent_orders.nd rfl (loc1 (by kernel_rfl)) (se_bin op_modN fits_mod (se_bltT call_intA fits_int rfl fx.b_int boot_int (sa_cons (se_bin op_fdivA fits_fdiv (se_var (i := 2) rfl (vis1 (by kernel_rfl))) se_int) sa_nil)) (se_var (i := 0) rfl (vis1 (by kernel_rfl)))) rfl (.inr (by kernel_rfl)))
    (sss_cons (ss_set (i := 5) sc__law_bent_orders.nd rfl (loc1 (by kernel_rfl)) (se_bltT call_list_of fits_list rfl fx.b_list boot_list (sa_cons (se_var (i := 1) rfl (vis1 (by kernel_rfl))) sa_nil)) rfl (.inr (by kernel_rfl)))
    (sss_cons (ss_setT (sd_v (se_ix (se_var (i := 1) rfl (vis1 (by kernel_rfl))) (se_var (i := 4) rfl (vis1 (by kernel_rfl))))) (sg_sub (i := 5) rfl (vis1 (by kernel_rfl)) (se_var (i := 3) rfl (vis1 (by kernel_rfl)))))
    (sss_cons (ss_setT (sd_v (se_ix (se_var (i := 1) rfl (vis1 (by kernel_rfl))) (se_var (i := 3) rfl (vis1 (by kernel_rfl))))) (sg_sub (i := 5) rfl (vis1 (by kernel_rfl)) (se_var (i := 4) rfl (vis1 (by kernel_rfl)))))
    (sss_cons (ss_set (i := 6) sc__law_bent_orders.nd rfl (loc1 (by kernel_rfl)) (se_bltT call_list_of fits_list rfl fx.b_list boot_list (sa_cons (se_var (i := 1) rfl (vis1 (by kernel_rfl))) sa_nil)) rfl (.inr (by kernel_rfl)))
    (sss_cons (ss_setT (sd_v (se_ix (se_var (i := 1) rfl (vis1 (by kernel_rfl))) (se_var (i := 4) rfl (vis1 (by kernel_rfl))))) (sg_sub (i := 6) rfl (vis1 (by kernel_rfl)) (se_var (i := 3) rfl (vis1 (by kernel_rfl)))))
    (sss_cons (ss_set (i := 7) sc__law_bent_orders.nd rfl (loc1 (by kernel_rfl)) (se_lst (sds_cons (se_frz (i := 1) rfl (vis1 (by kernel_rfl))) (sds_cons (se_frz (i := 5) rfl (vis1 (by kernel_rfl))) (sds_cons (se_frz (i := 6) rfl (vis1 (by kernel_rfl))) (sds_cons (se_rev (se_var (i := 1) rfl (vis1 (by kernel_rfl)))) (sds_cons (se_lst sds_nil) sds_nil)))))) rfl (.inr (by kernel_rfl)))
    (sss_cons (ss_app (i := 7) rfl (vis1 (by kernel_rfl)) (se_bin op_addA fits_add (se_var (i := 1) rfl (vis1 (by kernel_rfl))) (se_lst (sds_cons (se_ix (se_var (i := 1) rfl (vis1 (by kernel_rfl))) (se_var (i := 3) rfl (vis1 (by kernel_rfl)))) sds_nil))))
    (sss_cons (ss_app (i := 7) rfl (vis1 (by kernel_rfl)) (se_bin op_addA fits_add (se_var (i := 1) rfl (vis1 (by kernel_rfl))) (se_lst (sds_cons (se_frz (i := 0) rfl (vis1 (by kernel_rfl))) sds_nil))))
    (sss_cons (ss_app (i := 7) rfl (vis1 (by kernel_rfl)) (se_bin op_addA fits_add (se_sl (se_var (i := 1) rfl (vis1 (by kernel_rfl))) so_none (so_some (se_var (i := 3) rfl (vis1 (by kernel_rfl))))) (se_sl (se_var (i := 1) rfl (vis1 (by kernel_rfl))) (so_some (se_bin op_addA fits_add (se_var (i := 3) rfl (vis1 (by kernel_rfl))) se_int)) so_none)))
    (sss_cons (ss_for (passes_of rfl) rfl (si_seq (se_lst (sds_cons (se_frz (i := 0) rfl (vis1 (by kernel_rfl))) (sds_cons (se_un un_neg fits_neg se_int) (sds_cons (se_bin op_pow fits_pow se_int se_int) sds_nil))))) (sg_nm sc__law_bent_orders.nd rfl (loc1 (by kernel_rfl)) (.inr (by kernel_rfl)))
    (sss_one (ss_app (i := 7) rfl (vis1 (by kernel_rfl)) (se_bin op_addA fits_add (se_bin op_addA fits_add (se_sl (se_var (i := 1) rfl (vis1 (by kernel_rfl))) so_none (so_some (se_var (i := 3) rfl (vis1 (by kernel_rfl))))) (se_lst (sds_cons (se_frz (i := 8) rfl (vis1 (by kernel_rfl))) sds_nil))) (se_sl (se_var (i := 1) rfl (vis1 (by kernel_rfl))) (so_some (se_bin op_addA fits_add (se_var (i := 3) rfl (vis1 (by kernel_rfl))) se_int)) so_none)))))
    (sss_one (ss_ret (se_mv (i := 7) rfl (vis1 (by kernel_rfl)))))))))))))))))
theorem sc__law_bent_rounds : FnScope (["size", "ring", "cell", "many", "at", "to", "other", "swapped", "rows"] : List Str) (["size", "ring", "cell"] : List Str) (defScope (top 40)) := ⟨rfl, rfl, rfl, by decide +kernel, rfl, by decide +kernel, by decide +kernel⟩
theorem der__law_bent_rounds (fx : Fx P w K mg base n) (cdv : Value) (A : Around) (outer : List Env) (s : Shared) (H : Hp) (E : XK) (f : Addr) (hr : Room (2 * (n + 1) + 1) (A.deeper (envOfC "_law_bent_rounds" (defScope (top 40)) s.heap.objs.size f cdv))) :
    SSs (cxOf (L2.CX P w) P w K mg base (["size", "ring", "cell", "many", "at", "to", "other", "swapped", "rows"] : List Str) "_law_bent_rounds" (defScope (top 40)) f cdv A outer s H E) (defBody (top 40)) (B__law_bent_rounds (callF tb n)) :=
    (sss_cons (ss_set (i := 3) sc__law_bent_rounds.nd rfl (loc1 (by kernel_rfl)) (se_blt call_len fits_len rfl fx.b_len boot_len (sa_cons (se_var (i := 1) rfl (vis1 (by kernel_rfl))) sa_nil)) rfl (.inr (by kernel_rfl)))
    (sss_cons (ss_set (i := 4) sc__law_bent_rounds.nd rfl (loc1 (by kernel_rfl)) (se_bin op_modN fits_mod (se_bltT call_intA fits_int rfl fx.b_int boot_int (sa_cons (se_var (i := 2) rfl (vis1 (by kernel_rfl))) sa_nil)) (se_var (i := 3) rfl (vis1 (by kernel_rfl)))) rfl (.inr (by kernel_rfl)))
    (sss_cons (ss_set (i := 5) sc__law_bent_rounds.nd rfl (loc1 (by kernel_rfl)) (se_bin op_modN fits_mod (se_bltT call_intA fits_int rfl fx.b_int boot_int (sa_cons (se_bin op_fdivA fits_fdiv (se_var (i := 2) rfl (vis1 (by kernel_rfl))) se_int) sa_nil)) (se_var (i := 3) rfl (vis1 (by kernel_rfl)))) rfl (.inr (by kernel_rfl)))
    (sss_cons (ss_set (i := 6) sc__law_bent_rounds.nd rfl (loc1 (by kernel_rfl)) (se_bin op_modN fits_mod (se_bltT call_intA fits_int rfl fx.b_int boot_int (sa_cons (se_bin op_fdivA fits_fdiv (se_var (i := 2) rfl (vis1 (by kernel_rfl))) se_int) sa_nil)) (se_var (i := 0) rfl (vis1 (by kernel_rfl)))) rfl (.inr (by kernel_rfl)))
    (sss_cons (ss_set (i := 7) sc__law_bent_rounds.nd rfl (loc1 (by kernel_rfl)) (se_bltT call_list_of fits_list rfl fx.b_list boot_list (sa_cons (se_var (i := 1) rfl (vis1 (by kernel_rfl))) sa_nil)) rfl (.inr (by kernel_rfl)))
    (sss_cons (ss_setT (sd_v (se_ix (se_var (i := 1) rfl (vis1 (by kernel_rfl))) (se_var (i := 5) rfl (vis1 (by kernel_rfl))))) (sg_sub (i := 7) rfl (vis1 (by kernel_rfl)) (se_var (i := 4) rfl (vis1 (by kernel_rfl)))))
    (sss_cons (ss_setT (sd_v (se_ix (se_var (i := 1) rfl (vis1 (by kernel_rfl))) (se_var (i := 4) rfl (vis1 (by kernel_rfl))))) (sg_sub (i := 7) rfl (vis1 (by kernel_rfl)) (se_var (i := 5) rfl (vis1 (by kernel_rfl)))))
    (sss_cons (ss_set (i := 8) sc__law_bent_rounds.nd rfl (loc1 (by kernel_rfl)) (se_lst (sds_cons (se_frz (i := 1) rfl (vis1 (by kernel_rfl))) (sds_cons (se_rev (se_var (i := 1) rfl (vis1 (by kernel_rfl)))) (sds_cons (se_bin op_addA fits_add (se_var (i := 1) rfl (vis1 (by kernel_rfl))) (se_var (i := 1) rfl (vis1 (by kernel_rfl)))) (sds_cons (se_frz (i := 7) rfl (vis1 (by kernel_rfl))) (sds_cons (se_lst sds_nil) sds_nil)))))) rfl (.inr (by kernel_rfl)))
    (sss_cons (ss_app (i := 8) rfl (vis1 (by kernel_rfl)) (se_bin op_addA fits_add (se_sl (se_var (i := 1) rfl (vis1 (by kernel_rfl))) (so_some (se_var (i := 4) rfl (vis1 (by kernel_rfl)))) so_none) (se_sl (se_var (i := 1) rfl (vis1 (by kernel_rfl))) so_none (so_some (se_var (i := 4) rfl (vis1 (by kernel_rfl)))))))
    (sss_cons (ss_app (i := 8) rfl (vis1 (by kernel_rfl)) (se_bin op_addA fits_add (se_sl (se_var (i := 1) rfl (vis1 (by kernel_rfl))) so_none (so_some (se_var (i := 4) rfl (vis1 (by kernel_rfl))))) (se_sl (se_var (i := 1) rfl (vis1 (by kernel_rfl))) (so_some (se_bin op_addA fits_add (se_var (i := 4) rfl (vis1 (by kernel_rfl))) se_int)) so_none)))
    (sss_cons (ss_app (i := 8) rfl (vis1 (by kernel_rfl)) (se_bin op_addA fits_add (se_bin op_addA fits_add (se_sl (se_var (i := 1) rfl (vis1 (by kernel_rfl))) so_none (so_some (se_var (i := 4) rfl (vis1 (by kernel_rfl))))) (se_lst (sds_cons (se_frz (i := 6) rfl (vis1 (by kernel_rfl))) sds_nil))) (se_sl (se_var (i := 1) rfl (vis1 (by kernel_rfl))) (so_some (se_bin op_addA fits_add (se_var (i := 4) rfl (vis1 (by kernel_rfl))) se_int)) so_none)))
    (sss_cons (ss_app (i := 8) rfl (vis1 (by kernel_rfl)) (se_bin op_addA fits_add (se_var (i := 1) rfl (vis1 (by kernel_rfl))) (se_lst (sds_cons (se_ix (se_var (i := 1) rfl (vis1 (by kernel_rfl))) (se_var (i := 4) rfl (vis1 (by kernel_rfl)))) sds_nil))))
    (sss_cons (ss_app (i := 8) rfl (vis1 (by kernel_rfl)) (se_lst (sds_cons (se_frz (i := 6) rfl (vis1 (by kernel_rfl))) sds_nil)))
    (sss_cons (ss_app (i := 8) rfl (vis1 (by kernel_rfl)) (se_lst (sds_cons (se_ix (se_var (i := 1) rfl (vis1 (by kernel_rfl))) (se_var (i := 4) rfl (vis1 (by kernel_rfl)))) (sds_cons (se_frz (i := 6) rfl (vis1 (by kernel_rfl))) sds_nil))))
    (sss_one (ss_ret (se_mv (i := 8) rfl (vis1 (by kernel_rfl)))))))))))))))))))
theorem sc__law_orders_judged : FnScope (["graph", "nodes", "arrows", "direction", "rows", "row", "due", "given", "told"] : List Str) (["graph", "nodes", "arrows", "direction", "rows"] : List Str) (defScope (top 41)) := ⟨rfl, rfl, rfl, by decide +kernel, rfl, by decide +kernel, by decide +kernel⟩
theorem der__law_orders_judged (fx : Fx P w K mg base n) (cdv : Value) (A : Around) (outer : List Env) (s : Shared) (H : Hp) (E : XK) (f : Addr) (hr : Room (2 * (n + 1) + 1) (A.deeper (envOfC "_law_orders_judged" (defScope (top 41)) s.heap.objs.size f cdv))) :
    SSs (cxOf (L2.CX P w) P w K mg base (["graph", "nodes", "arrows", "direction", "rows", "row", "due", "given", "told"] : List Str) "_law_orders_judged" (defScope (top 41)) f cdv A outer s H E) (defBody (top 41)) (B__law_orders_judged (callF tb n)) :=
    (sss_cons (ss_lock (ss_for (passes_of rfl) rfl (si_varY (i := 4) rfl (vis1 (by kernel_rfl))) (sg_nm sc__law_orders_judged.nd rfl (loc1 (by kernel_rfl)) (.inr (by kernel_rfl)))
    (sss_cons (ss_set (i := 6) sc__law_orders_judged.nd rfl (loc1 (by kernel_rfl)) (se_call rfl (fx.c__law_is_order _ hr) (sa_cons (se_var (i := 1) rfl (vis1 (by kernel_rfl))) (sa_cons (se_var (i := 2) rfl (vis1 (by kernel_rfl))) (sa_cons (se_var (i := 5) rfl (vis1 (by kernel_rfl))) sa_nil))) rfl (hlen := (len_cons (len_cons (len_cons len_nil))))) rfl (.inr (by kernel_rfl)))
    (sss_cons (ss_set (i := 7) sc__law_orders_judged.nd rfl (loc1 (by kernel_rfl)) (se_bltT call_list_of fits_list rfl fx.b_list boot_list (sa_cons (se_var (i := 5) rfl (vis1 (by kernel_rfl))) sa_nil)) rfl (.inr (by kernel_rfl)))
    (sss_cons (ss_set (i := 8) sc__law_orders_judged.nd rfl (loc1 (by kernel_rfl)) (se_call rfl (fx.c_shows_order _ hr) (sa_cons (se_var (i := 0) rfl (vis1 (by kernel_rfl))) (sa_cons (se_frz (i := 3) rfl (vis1 (by kernel_rfl))) (sa_cons (se_var (i := 7) rfl (vis1 (by kernel_rfl))) sa_nil))) rfl (hlen := (len_cons (len_cons (len_cons len_nil))))) rfl (.inr (by kernel_rfl)))
    (sss_cons (ss_if (st_w (sw_or (st_not (st_tr (se_call rfl (fx.c__law_alike _ hr) (sa_cons (se_var (i := 8) rfl (vis1 (by kernel_rfl))) (sa_cons (se_var (i := 6) rfl (vis1 (by kernel_rfl))) sa_nil)) rfl (hlen := (len_cons (len_cons len_nil)))))) (sw_or1 (st_cmp (op_neD hr.units) fits_ne (se_var (i := 7) rfl (vis1 (by kernel_rfl))) (se_var (i := 5) rfl (vis1 (by kernel_rfl)))))))
    (sss_one (ss_ret se_bl))
    sss_nil)
    (sss_one (ss_if (st_not (st_tr (se_call rfl (fx.c__law_alike _ hr) (sa_cons (se_call rfl (fx.c_shows_order _ hr) (sa_cons (se_var (i := 0) rfl (vis1 (by kernel_rfl))) (sa_cons (se_frz (i := 3) rfl (vis1 (by kernel_rfl))) (sa_cons (se_bltT call_tuple_of fits_tuple rfl fx.b_tuple boot_tuple (sa_cons (se_var (i := 5) rfl (vis1 (by kernel_rfl))) sa_nil)) sa_nil))) rfl (hlen := (len_cons (len_cons (len_cons len_nil))))) (sa_cons (se_var (i := 6) rfl (vis1 (by kernel_rfl))) sa_nil)) rfl (hlen := (len_cons (len_cons len_nil))))))
    (sss_one (ss_ret se_bl))
    sss_nil))))))))
    (sss_one (ss_ret se_bl)))
theorem sc__law_rounds_judged : FnScope (["graph", "arrows", "direction", "rows", "row", "due", "given", "told"] : List Str) (["graph", "arrows", "direction", "rows"] : List Str) (defScope (top 42)) := ⟨rfl, rfl, rfl, by decide +kernel, rfl, by decide +kernel, by decide +kernel⟩
theorem der__law_rounds_judged (fx : Fx P w K mg base n) (cdv : Value) (A : Around) (outer : List Env) (s : Shared) (H : Hp) (E : XK) (f : Addr) (hr : Room (2 * (n + 1) + 1) (A.deeper (envOfC "_law_rounds_judged" (defScope (top 42)) s.heap.objs.size f cdv))) :
    SSs (cxOf (L2.CX P w) P w K mg base (["graph", "arrows", "direction", "rows", "row", "due", "given", "told"] : List Str) "_law_rounds_judged" (defScope (top 42)) f cdv A outer s H E) (defBody (top 42)) (B__law_rounds_judged (callF tb n)) :=
    (sss_cons (ss_lock (ss_for (passes_of rfl) rfl (si_varY (i := 3) rfl (vis1 (by kernel_rfl))) (sg_nm sc__law_rounds_judged.nd rfl (loc1 (by kernel_rfl)) (.inr (by kernel_rfl)))
    (sss_cons (ss_set (i := 5) sc__law_rounds_judged.nd rfl (loc1 (by kernel_rfl)) (se_call rfl (fx.c__law_is_round _ hr) (sa_cons (se_var (i := 1) rfl (vis1 (by kernel_rfl))) (sa_cons (se_var (i := 4) rfl (vis1 (by kernel_rfl))) sa_nil)) rfl (hlen := (len_cons (len_cons len_nil)))) rfl (.inr (by kernel_rfl)))
    (sss_cons (ss_set (i := 6) sc__law_rounds_judged.nd rfl (loc1 (by kernel_rfl)) (se_bltT call_list_of fits_list rfl fx.b_list boot_list (sa_cons (se_var (i := 4) rfl (vis1 (by kernel_rfl))) sa_nil)) rfl (.inr (by kernel_rfl)))
    (sss_cons (ss_set (i := 7) sc__law_rounds_judged.nd rfl (loc1 (by kernel_rfl)) (se_call rfl (fx.c_shows_round _ hr) (sa_cons (se_var (i := 0) rfl (vis1 (by kernel_rfl))) (sa_cons (se_frz (i := 2) rfl (vis1 (by kernel_rfl))) (sa_cons (se_var (i := 6) rfl (vis1 (by kernel_rfl))) sa_nil))) rfl (hlen := (len_cons (len_cons (len_cons len_nil))))) rfl (.inr (by kernel_rfl)))
    (sss_cons (ss_if (st_w (sw_or (st_not (st_tr (se_call rfl (fx.c__law_alike _ hr) (sa_cons (se_var (i := 7) rfl (vis1 (by kernel_rfl))) (sa_cons (se_var (i := 5) rfl (vis1 (by kernel_rfl))) sa_nil)) rfl (hlen := (len_cons (len_cons len_nil)))))) (sw_or1 (st_cmp (op_neD hr.units) fits_ne (se_var (i := 6) rfl (vis1 (by kernel_rfl))) (se_var (i := 4) rfl (vis1 (by kernel_rfl)))))))
    (sss_one (ss_ret se_bl))
    sss_nil)
    (sss_one (ss_if (st_not (st_tr (se_call rfl (fx.c__law_alike _ hr) (sa_cons (se_call rfl (fx.c_shows_round _ hr) (sa_cons (se_var (i := 0) rfl (vis1 (by kernel_rfl))) (sa_cons (se_frz (i := 2) rfl (vis1 (by kernel_rfl))) (sa_cons (se_bltT call_tuple_of fits_tuple rfl fx.b_tuple boot_tuple (sa_cons (se_var (i := 4) rfl (vis1 (by kernel_rfl))) sa_nil)) sa_nil))) rfl (hlen := (len_cons (len_cons (len_cons len_nil))))) (sa_cons (se_var (i := 5) rfl (vis1 (by kernel_rfl))) sa_nil)) rfl (hlen := (len_cons (len_cons len_nil))))))
    (sss_one (ss_ret se_bl))
    sss_nil))))))))
    (sss_one (ss_ret se_bl)))
theorem sc__law_called : FnScope (["door", "graph", "direction", "row"] : List Str) (["door", "graph", "direction", "row"] : List Str) (defScope (top 43)) := ⟨rfl, rfl, rfl, by decide +kernel, rfl, by decide +kernel, by decide +kernel⟩
theorem der__law_called (fx : Fx P w K mg base n) (cdv : Value) (A : Around) (outer : List Env) (s : Shared) (H : Hp) (E : XK) (f : Addr) (hr : Room (2 * (n + 1) + 1) (A.deeper (envOfC "_law_called" (defScope (top 43)) s.heap.objs.size f cdv))) :
    SSs (cxOf (L2.CX P w) P w K mg base (["door", "graph", "direction", "row"] : List Str) "_law_called" (defScope (top 43)) f cdv A outer s H E) (defBody (top 43)) (B__law_called (callF tb n)) :=
    (sss_cons (ss_if (st_cmp (op_eqD hr.units) fits_eq (se_var (i := 0) rfl (vis1 (by kernel_rfl))) se_int)
    (sss_one (ss_ret (se_call rfl (fx.c_order_paper _ hr) (sa_cons (se_var (i := 1) rfl (vis1 (by kernel_rfl))) (sa_cons (se_frz (i := 2) rfl (vis1 (by kernel_rfl))) sa_nil)) rfl (hlen := (len_cons (len_cons len_nil))))))
    sss_nil)
    (sss_cons (ss_if (st_cmp (op_eqD hr.units) fits_eq (se_var (i := 0) rfl (vis1 (by kernel_rfl))) se_int)
    (sss_one (ss_ret (se_call rfl (fx.c_shows_order _ hr) (sa_cons (se_var (i := 1) rfl (vis1 (by kernel_rfl))) (sa_cons (se_frz (i := 2) rfl (vis1 (by kernel_rfl))) (sa_cons (se_var (i := 3) rfl (vis1 (by kernel_rfl))) sa_nil))) rfl (hlen := (len_cons (len_cons (len_cons len_nil)))))))
    sss_nil)
    (sss_one (ss_ret (se_call rfl (fx.c_shows_round _ hr) (sa_cons (se_var (i := 1) rfl (vis1 (by kernel_rfl))) (sa_cons (se_frz (i := 2) rfl (vis1 (by kernel_rfl))) (sa_cons (se_var (i := 3) rfl (vis1 (by kernel_rfl))) sa_nil))) rfl (hlen := (len_cons (len_cons (len_cons len_nil)))))))))
theorem sc__law_fate : FnScope (["door", "graph", "direction", "row", "e", "signs"] : List Str) (["door", "graph", "direction", "row"] : List Str) (defScope (top 44)) := ⟨rfl, rfl, rfl, by decide +kernel, rfl, by decide +kernel, by decide +kernel⟩
theorem der__law_fate (fx : Fx P w K mg base n) (cdv : Value) (A : Around) (outer : List Env) (s : Shared) (H : Hp) (E : XK) (f : Addr) (hr : Room (2 * (n + 1) + 1) (A.deeper (envOfC "_law_fate" (defScope (top 44)) s.heap.objs.size f cdv))) :
    SSs (cxOf (L2.CX P w) P w K mg base (["door", "graph", "direction", "row", "e", "signs"] : List Str) "_law_fate" (defScope (top 44)) f cdv A outer s H E) (defBody (top 44)) (B__law_fate (callF tb n)) :=
    (sss_cons (ss_try (i := 4) (c := Cn.v K (.own ("StrikejoinError" : Str))) rfl rfl rfl sc__law_fate.nd rfl rfl ⟨rfl, rfl, .inl fx.g_StrikejoinError⟩ (fx.s_StrikejoinError _) (fun pn xe hp => (sss_one (ss_expr (se_call rfl (fx.c__law_called _ hr) (sa_cons (se_var (i := 0) rfl (vis1 (by kernel_rfl))) (sa_cons (se_var (i := 1) rfl (vis1 (by kernel_rfl))) (sa_cons (se_frz (i := 2) rfl (vis1 (by kernel_rfl))) (sa_cons (se_var (i := 3) rfl (vis1 (by kernel_rfl))) sa_nil)))) rfl (hlen := (len_cons (len_cons (len_cons (len_cons len_nil)))))))))
    (fun a oe pn => (sss_cons (ss_set (i := 5) sc__law_fate.nd rfl (loc1 (by kernel_rfl)) (se_isX (X := _) (cv := Cn.v K (.own ("BadSigns" : Str))) (fx.i_BadSigns _) (i := 4) rfl (vis1 (by kernel_rfl)) rfl fx.b_isinstance (pe_glob (v := V.ref (He.ga K ("BadSigns" : Str))) rfl fx.g_BadSigns rfl) (fun _ h => h)) rfl (.inr (by kernel_rfl)))
    (sss_cons (ss_if (st_w (sw_or (st_cmp (op_eqD hr.units) fits_eq (se_var (i := 5) rfl (vis1 (by kernel_rfl))) (se_isX (X := _) (cv := Cn.v K (.own ("BadElement" : Str))) (fx.i_BadElement _) (i := 4) rfl (vis1 (by kernel_rfl)) rfl fx.b_isinstance (pe_glob (v := V.ref (He.ga K ("BadElement" : Str))) rfl fx.g_BadElement rfl) (fun _ h => h))) (sw_or1 (st_not (st_tr (se_isX (X := _) (cv := Cn.v K (.ty "ValueError")) (fx.i_ValueError _) (i := 4) rfl (vis1 (by kernel_rfl)) rfl fx.b_isinstance (pe_bltn (v := V.ty "ValueError") rfl fx.b_ValueError (by kernel_rfl) rfl) (fun _ h => h)))))))
    (sss_one (ss_ret (se_tup (sds_cons se_str sds_nil))))
    sss_nil)
    (sss_cons (ss_if (st_tr (se_var (i := 5) rfl (vis1 (by kernel_rfl))))
    (sss_one (ss_ret (se_tup (sds_cons se_str (sds_cons (se_xf (fx.f_signs _) (i := 4) rfl (vis1 (by kernel_rfl))) sds_nil)))))
    sss_nil)
    (sss_one (ss_ret (se_tup (sds_cons se_str (sds_cons (se_xf (fx.f_element _) (i := 4) rfl (vis1 (by kernel_rfl))) sds_nil))))))))))
    (sss_one (ss_ret (se_tup (sds_cons se_str sds_nil)))))
theorem sc__law_refused : FnScope (["graph", "size", "direction", "ring", "cell", "at", "sign", "bent", "texts", "odd", "spot", "row", "text", "door"] : List Str) (["graph", "size", "direction", "ring", "cell"] : List Str) (defScope (top 45)) := ⟨rfl, rfl, rfl, by decide +kernel, rfl, by decide +kernel, by decide +kernel⟩
theorem der__law_refused (fx : Fx P w K mg base n) (cdv : Value) (A : Around) (outer : List Env) (s : Shared) (H : Hp) (E : XK) (f : Addr) (hr : Room (2 * (n + 1) + 1) (A.deeper (envOfC "_law_refused" (defScope (top 45)) s.heap.objs.size f cdv))) :
    SSs (cxOf (L2.CX P w) P w K mg base (["graph", "size", "direction", "ring", "cell", "at", "sign", "bent", "texts", "odd", "spot", "row", "text", "door"] : List Str) "_law_refused" (defScope (top 45)) f cdv A outer s H E) (defBody (top 45)) (B__law_refused (callF tb n)) :=
    (sss_cons (ss_set (i := 5) sc__law_refused.nd rfl (loc1 (by kernel_rfl)) (se_bin op_modN fits_mod (se_bltT call_intA fits_int rfl fx.b_int boot_int (sa_cons (se_var (i := 4) rfl (vis1 (by kernel_rfl))) sa_nil)) (se_blt (call_max2 rfl) fits_max2 rfl fx.b_max boot_max (sa_cons se_int (sa_cons (se_var (i := 1) rfl (vis1 (by kernel_rfl))) sa_nil)))) rfl (.inr (by kernel_rfl)))
    (sss_cons (ss_set (i := 6) sc__law_refused.nd rfl (loc1 (by kernel_rfl)) (se_ix se_str (se_bin op_modN fits_mod (se_bltT call_intA fits_int rfl fx.b_int boot_int (sa_cons (se_bin op_fdivA fits_fdiv (se_var (i := 4) rfl (vis1 (by kernel_rfl))) se_int) sa_nil)) se_int)) rfl (.inr (by kernel_rfl)))
    (sss_cons (ss_set (i := 7) sc__law_refused.nd rfl (loc1 (by kernel_rfl)) (se_bin op_addA fits_add (se_bin op_addA fits_add (se_sl (se_var (i := 2) rfl (vis1 (by kernel_rfl))) so_none (so_some (se_var (i := 5) rfl (vis1 (by kernel_rfl))))) (se_var (i := 6) rfl (vis1 (by kernel_rfl)))) (se_sl (se_var (i := 2) rfl (vis1 (by kernel_rfl))) (so_some (se_bin op_addA fits_add (se_var (i := 5) rfl (vis1 (by kernel_rfl))) se_int)) so_none)) rfl (.inr (by kernel_rfl)))
    (sss_cons (ss_set (i := 8) sc__law_refused.nd rfl (loc1 (by kernel_rfl)) (se_lst (sds_cons (se_bin op_addA fits_add (se_var (i := 2) rfl (vis1 (by kernel_rfl))) se_str) (sds_cons (se_frz (i := 7) rfl (vis1 (by kernel_rfl))) sds_nil))) rfl (.inr (by kernel_rfl)))
    (sss_cons (ss_if (st_cmp op_gt fits_cmpI (se_var (i := 1) rfl (vis1 (by kernel_rfl))) se_int)
    (sss_one (ss_app (i := 8) rfl (vis1 (by kernel_rfl)) (se_sl (se_var (i := 2) rfl (vis1 (by kernel_rfl))) (so_some se_int) so_none)))
    sss_nil)
    (sss_cons (ss_set (i := 9) sc__law_refused.nd rfl (loc1 (by kernel_rfl)) (se_ix (se_lst (sds_cons (se_frz (i := 1) rfl (vis1 (by kernel_rfl))) (sds_cons (se_un un_neg fits_neg se_int) (sds_cons (se_bin op_pow fits_pow se_int se_int) (sds_cons (se_bin op_sub fits_sub (se_un un_neg fits_neg (se_var (i := 1) rfl (vis1 (by kernel_rfl)))) se_int) sds_nil))))) (se_bin op_modN fits_mod (se_bltT call_intA fits_int rfl fx.b_int boot_int (sa_cons (se_bin op_fdivA fits_fdiv (se_var (i := 4) rfl (vis1 (by kernel_rfl))) se_int) sa_nil)) se_int)) rfl (.inr (by kernel_rfl)))
    (sss_cons (ss_set (i := 10) sc__law_refused.nd rfl (loc1 (by kernel_rfl)) (se_bin op_modN fits_mod (se_bltT call_intA fits_int rfl fx.b_int boot_int (sa_cons (se_bin op_fdivA fits_fdiv (se_var (i := 4) rfl (vis1 (by kernel_rfl))) se_int) sa_nil)) (se_bin op_addA fits_add (se_blt call_len fits_len rfl fx.b_len boot_len (sa_cons (se_var (i := 3) rfl (vis1 (by kernel_rfl))) sa_nil)) se_int)) rfl (.inr (by kernel_rfl)))
    (sss_cons (ss_set (i := 11) sc__law_refused.nd rfl (loc1 (by kernel_rfl)) (se_bin op_addA fits_add (se_bin op_addA fits_add (se_bin op_addA fits_add (se_sl (se_var (i := 3) rfl (vis1 (by kernel_rfl))) so_none (so_some (se_var (i := 10) rfl (vis1 (by kernel_rfl))))) (se_lst (sds_cons (se_frz (i := 9) rfl (vis1 (by kernel_rfl))) sds_nil))) (se_sl (se_var (i := 3) rfl (vis1 (by kernel_rfl))) (so_some (se_var (i := 10) rfl (vis1 (by kernel_rfl)))) so_none)) (se_lst (sds_cons (se_bin op_addA fits_add (se_var (i := 1) rfl (vis1 (by kernel_rfl))) se_int) sds_nil))) rfl (.inr (by kernel_rfl)))
    (sss_cons (ss_lock (ss_for (passes_of rfl) rfl (si_varY (i := 8) rfl (vis1 (by kernel_rfl))) (sg_nm sc__law_refused.nd rfl (loc1 (by kernel_rfl)) (.inr (by kernel_rfl)))
    (sss_one (ss_for (passes_of rfl) rfl (si_rg1 rfl fx.b_range se_int) (sg_nm sc__law_refused.nd rfl (loc1 (by kernel_rfl)) (.inr (by kernel_rfl)))
    (sss_one (ss_if (st_not (st_tr (se_call rfl (fx.c__law_alike _ hr) (sa_cons (se_call rfl (fx.c__law_fate _ hr) (sa_cons (se_var (i := 13) rfl (vis1 (by kernel_rfl))) (sa_cons (se_var (i := 0) rfl (vis1 (by kernel_rfl))) (sa_cons (se_frz (i := 12) rfl (vis1 (by kernel_rfl))) (sa_cons (se_var (i := 11) rfl (vis1 (by kernel_rfl))) sa_nil)))) rfl (hlen := (len_cons (len_cons (len_cons (len_cons len_nil)))))) (sa_cons (se_tup (sds_cons se_str (sds_cons (se_frz (i := 12) rfl (vis1 (by kernel_rfl))) sds_nil))) sa_nil)) rfl (hlen := (len_cons (len_cons len_nil))))))
    (sss_one (ss_ret se_bl))
    sss_nil))))))
    (sss_cons (ss_if (st_not (st_tr (se_call rfl (fx.c__law_alike _ hr) (sa_cons (se_call rfl (fx.c__law_fate _ hr) (sa_cons se_int (sa_cons (se_var (i := 0) rfl (vis1 (by kernel_rfl))) (sa_cons (se_frz (i := 2) rfl (vis1 (by kernel_rfl))) (sa_cons (se_var (i := 11) rfl (vis1 (by kernel_rfl))) sa_nil)))) rfl (hlen := (len_cons (len_cons (len_cons (len_cons len_nil)))))) (sa_cons (se_tup (sds_cons se_str (sds_cons (se_frz (i := 9) rfl (vis1 (by kernel_rfl))) sds_nil))) sa_nil)) rfl (hlen := (len_cons (len_cons len_nil))))))
    (sss_one (ss_ret se_bl))
    sss_nil)
    (sss_one (ss_ret (se_call rfl (fx.c__law_alike _ hr) (sa_cons (se_call rfl (fx.c__law_fate _ hr) (sa_cons se_int (sa_cons (se_var (i := 0) rfl (vis1 (by kernel_rfl))) (sa_cons (se_frz (i := 2) rfl (vis1 (by kernel_rfl))) (sa_cons (se_var (i := 3) rfl (vis1 (by kernel_rfl))) sa_nil)))) rfl (hlen := (len_cons (len_cons (len_cons (len_cons len_nil)))))) (sa_cons (se_tup (sds_cons se_str sds_nil)) sa_nil)) rfl (hlen := (len_cons (len_cons len_nil))))))))))))))))
theorem sc__law_nothing : FnScope (["graph"] : List Str) ([] : List Str) (defScope (top 46)) := ⟨rfl, rfl, rfl, by decide +kernel, rfl, by decide +kernel, by decide +kernel⟩
theorem der__law_nothing (fx : Fx P w K mg base n) (cdv : Value) (A : Around) (outer : List Env) (s : Shared) (H : Hp) (E : XK) (f : Addr) (hr : Room (2 * (n + 1) + 1) (A.deeper (envOfC "_law_nothing" (defScope (top 46)) s.heap.objs.size f cdv))) :
    SSs (cxOf (L2.CX P w) P w K mg base (["graph"] : List Str) "_law_nothing" (defScope (top 46)) f cdv A outer s H E) (defBody (top 46)) (B__law_nothing (callF tb n)) :=
    (sss_cons (ss_set (i := 0) sc__law_nothing.nd rfl (loc1 (by kernel_rfl)) (se_make rfl (fx.m_Graph _ hr) (sa_cons se_int (sa_cons (se_lst sds_nil) sa_nil)) rfl (hlen := (len_cons (len_cons len_nil)))) rfl (.inr (by kernel_rfl)))
    (sss_cons (ss_if (st_not (st_tr (se_call rfl (fx.c__law_alike _ hr) (sa_cons (se_call rfl (fx.c_order_paper _ hr) (sa_cons (se_var (i := 0) rfl (vis1 (by kernel_rfl))) (sa_cons se_str sa_nil)) rfl (hlen := (len_cons (len_cons len_nil)))) (sa_cons (se_tup (sds_cons se_str (sds_cons (se_tup sds_nil) sds_nil))) sa_nil)) rfl (hlen := (len_cons (len_cons len_nil))))))
    (sss_one (ss_ret se_bl))
    sss_nil)
    (sss_cons (ss_if (st_w (sw_or (st_cmp op_isnot_bl fits_notB (se_call rfl (fx.c_shows_order _ hr) (sa_cons (se_var (i := 0) rfl (vis1 (by kernel_rfl))) (sa_cons se_str (sa_cons (se_lst sds_nil) sa_nil))) rfl (hlen := (len_cons (len_cons (len_cons len_nil))))) se_bl) (sw_or1 (st_cmp op_isnot_bl fits_notB (se_call rfl (fx.c_shows_order _ hr) (sa_cons (se_var (i := 0) rfl (vis1 (by kernel_rfl))) (sa_cons se_str (sa_cons (se_lst (sds_cons se_int sds_nil)) sa_nil))) rfl (hlen := (len_cons (len_cons (len_cons len_nil))))) se_bl))))
    (sss_one (ss_ret se_bl))
    sss_nil)
    (sss_one (ss_ret (se_cmp op_is_bl fits_isB (se_call rfl (fx.c_shows_round _ hr) (sa_cons (se_var (i := 0) rfl (vis1 (by kernel_rfl))) (sa_cons se_str (sa_cons (se_lst sds_nil) sa_nil))) rfl (hlen := (len_cons (len_cons (len_cons len_nil))))) se_bl))))))
theorem sc_law : FnScope (["script", "nodes", "edges", "graph", "direction", "arrows", "order", "rows", "singles", "plain", "web", "more", "signs", "ring", "both", "looped", "bent", "cell", "k", "edge"] : List Str) (["script"] : List Str) (defScope (top 47)) := ⟨rfl, rfl, rfl, by decide +kernel, rfl, by decide +kernel, by decide +kernel⟩
theorem der_law (fx : Fx P w K mg base n) (cdv : Value) (A : Around) (outer : List Env) (s : Shared) (H : Hp) (E : XK) (f : Addr) (hr : Room (2 * (n + 1) + 1) (A.deeper (envOfC "law" (defScope (top 47)) s.heap.objs.size f cdv))) :
    SSs (cxOf (L2.CX P w) P w K mg base (["script", "nodes", "edges", "graph", "direction", "arrows", "order", "rows", "singles", "plain", "web", "more", "signs", "ring", "both", "looped", "bent", "cell", "k", "edge"] : List Str) "law" (defScope (top 47)) f cdv A outer s H E) (defBody (top 47)) (B_law (callF tb n)) :=
    (sss_cons (ss_setT (sd_v (se_call rfl (fx.c__law_world _ hr) (sa_cons (se_var (i := 0) rfl (vis1 (by kernel_rfl))) sa_nil) rfl (hlen := (len_cons len_nil)))) (sg_tup rfl (sgs_cons (sg_nm sc_law.nd rfl (loc1 (by kernel_rfl)) (.inr (by kernel_rfl))) (sgs_cons (sg_nm sc_law.nd rfl (loc1 (by kernel_rfl)) (.inr (by kernel_rfl))) sgs_nil))))
    (sss_cons (ss_set (i := 3) sc_law.nd rfl (loc1 (by kernel_rfl)) (se_make rfl (fx.m_Graph _ hr) (sa_cons (se_frz (i := 1) rfl (vis1 (by kernel_rfl))) (sa_cons (se_var (i := 2) rfl (vis1 (by kernel_rfl))) sa_nil)) rfl (hlen := (len_cons (len_cons len_nil)))) rfl (.inr (by kernel_rfl)))
    (sss_cons (ss_set (i := 4) sc_law.nd rfl (loc1 (by kernel_rfl)) (se_call rfl (fx.c__law_drawn_signs _ hr) (sa_cons (se_call rfl (fx.c__law_cell _ hr) (sa_cons (se_var (i := 0) rfl (vis1 (by kernel_rfl))) (sa_cons se_int sa_nil)) rfl (hlen := (len_cons (len_cons len_nil)))) (sa_cons (se_blt call_len fits_len rfl fx.b_len boot_len (sa_cons (se_var (i := 2) rfl (vis1 (by kernel_rfl))) sa_nil)) sa_nil)) rfl (hlen := (len_cons (len_cons len_nil)))) rfl (.inr (by kernel_rfl)))
    (sss_cons (ss_set (i := 5) sc_law.nd rfl (loc1 (by kernel_rfl)) (se_call rfl (fx.c__law_arrows_of _ hr) (sa_cons (se_var (i := 2) rfl (vis1 (by kernel_rfl))) (sa_cons (se_var (i := 4) rfl (vis1 (by kernel_rfl))) sa_nil)) rfl (hlen := (len_cons (len_cons len_nil)))) rfl (.inr (by kernel_rfl)))
    (sss_cons (ss_set (i := 6) sc_law.nd rfl (loc1 (by kernel_rfl)) (se_call rfl (fx.c__law_drawn_order _ hr) (sa_cons (se_call rfl (fx.c__law_cell _ hr) (sa_cons (se_var (i := 0) rfl (vis1 (by kernel_rfl))) (sa_cons se_int sa_nil)) rfl (hlen := (len_cons (len_cons len_nil)))) (sa_cons (se_var (i := 1) rfl (vis1 (by kernel_rfl))) sa_nil)) rfl (hlen := (len_cons (len_cons len_nil)))) rfl (.inr (by kernel_rfl)))
    (sss_cons (ss_set (i := 7) sc_law.nd rfl (loc1 (by kernel_rfl)) (se_call rfl (fx.c__law_bent_orders _ hr) (sa_cons (se_frz (i := 1) rfl (vis1 (by kernel_rfl))) (sa_cons (se_frz (i := 6) rfl (vis1 (by kernel_rfl))) (sa_cons (se_call rfl (fx.c__law_cell _ hr) (sa_cons (se_var (i := 0) rfl (vis1 (by kernel_rfl))) (sa_cons se_int sa_nil)) rfl (hlen := (len_cons (len_cons len_nil)))) sa_nil))) rfl (hlen := (len_cons (len_cons (len_cons len_nil))))) rfl (.inr (by kernel_rfl)))
    (sss_cons (ss_if (st_not (st_tr (se_call rfl (fx.c__law_paper _ hr) (sa_cons (se_var (i := 3) rfl (vis1 (by kernel_rfl))) (sa_cons (se_var (i := 1) rfl (vis1 (by kernel_rfl))) (sa_cons (se_var (i := 5) rfl (vis1 (by kernel_rfl))) (sa_cons (se_frz (i := 4) rfl (vis1 (by kernel_rfl))) sa_nil)))) rfl (hlen := (len_cons (len_cons (len_cons (len_cons len_nil))))))))
    (sss_one (ss_ret se_bl))
    sss_nil)
    (sss_cons (ss_if (st_not (st_tr (se_call rfl (fx.c__law_orders_judged _ hr) (sa_cons (se_var (i := 3) rfl (vis1 (by kernel_rfl))) (sa_cons (se_var (i := 1) rfl (vis1 (by kernel_rfl))) (sa_cons (se_var (i := 5) rfl (vis1 (by kernel_rfl))) (sa_cons (se_frz (i := 4) rfl (vis1 (by kernel_rfl))) (sa_cons (se_var (i := 7) rfl (vis1 (by kernel_rfl))) sa_nil))))) rfl (hlen := (len_cons (len_cons (len_cons (len_cons (len_cons len_nil)))))))))
    (sss_one (ss_ret se_bl))
    sss_nil)
    (sss_cons (ss_setLc (i := 8) (own := [("k", 18)]) rfl sc_law.nd rfl (by kernel_rfl) rfl (si_rg1 rfl fx.b_range (se_blt call_len fits_len rfl fx.b_len boot_len (sa_cons (se_var (i := 2) rfl (vis1 (by kernel_rfl))) sa_nil))) (blkB_ok (by kernel_rfl)) (fun s H C cl fp => (sn_nm sc_law.nd rfl (loc1 (by kernel_rfl)) (.inr (by kernel_rfl)))) (fun s H C cl fp => sc_nil) (fun s H C cl fp => (se_lst (sds_cons (se_frz (i := 18) rfl (vis1 (by kernel_rfl))) sds_nil))))
    (sss_cons (ss_if (st_not (st_tr (se_call rfl (fx.c__law_rounds_judged _ hr) (sa_cons (se_var (i := 3) rfl (vis1 (by kernel_rfl))) (sa_cons (se_var (i := 5) rfl (vis1 (by kernel_rfl))) (sa_cons (se_frz (i := 4) rfl (vis1 (by kernel_rfl))) (sa_cons (se_var (i := 8) rfl (vis1 (by kernel_rfl))) sa_nil)))) rfl (hlen := (len_cons (len_cons (len_cons (len_cons len_nil))))))))
    (sss_one (ss_ret se_bl))
    sss_nil)
    (sss_cons (ss_if (st_not (st_tr (se_call rfl (fx.c__law_refused _ hr) (sa_cons (se_var (i := 3) rfl (vis1 (by kernel_rfl))) (sa_cons (se_blt call_len fits_len rfl fx.b_len boot_len (sa_cons (se_var (i := 2) rfl (vis1 (by kernel_rfl))) sa_nil)) (sa_cons (se_frz (i := 4) rfl (vis1 (by kernel_rfl))) (sa_cons (se_lst sds_nil) (sa_cons (se_call rfl (fx.c__law_cell _ hr) (sa_cons (se_var (i := 0) rfl (vis1 (by kernel_rfl))) (sa_cons se_int sa_nil)) rfl (hlen := (len_cons (len_cons len_nil)))) sa_nil))))) rfl (hlen := (len_cons (len_cons (len_cons (len_cons (len_cons len_nil)))))))))
    (sss_one (ss_ret se_bl))
    sss_nil)
    (sss_cons (ss_lock (ss_set (i := 9) sc_law.nd rfl (loc2 (by kernel_rfl)) (se_lc (own := [("edge", 19)]) rfl sc_law.nd (si_varY (i := 2) rfl (vis1 (by kernel_rfl))) (blkB_ok (by kernel_rfl)) (fun s H C cl fp => (sn_nm sc_law.nd rfl (loc1 (by kernel_rfl)) (.inr (by kernel_rfl)))) (fun s H C cl fp => (sc_one (st_cmp (op_neD hr.units) fits_ne (se_ix (se_var (i := 19) rfl (vis1 (by kernel_rfl))) se_int) (se_ix (se_var (i := 19) rfl (vis1 (by kernel_rfl))) se_int)))) (fun s H C cl fp => (se_frz (i := 19) rfl (vis1 (by kernel_rfl))))) rfl (.inl (by kernel_rfl))))
    (sss_cons (ss_set (i := 10) sc_law.nd rfl (loc1 (by kernel_rfl)) (se_make rfl (fx.m_Graph _ hr) (sa_cons (se_frz (i := 1) rfl (vis1 (by kernel_rfl))) (sa_cons (se_var (i := 9) rfl (vis2 (by kernel_rfl))) sa_nil)) rfl (hlen := (len_cons (len_cons len_nil)))) rfl (.inr (by kernel_rfl)))
    (sss_cons (ss_set (i := 4) sc_law.nd rfl (loc1 (by kernel_rfl)) (se_call rfl (fx.c__law_along _ hr) (sa_cons (se_var (i := 9) rfl (vis2 (by kernel_rfl))) (sa_cons (se_var (i := 6) rfl (vis1 (by kernel_rfl))) sa_nil)) rfl (hlen := (len_cons (len_cons len_nil)))) rfl (.inr (by kernel_rfl)))
    (sss_cons (ss_set (i := 5) sc_law.nd rfl (loc1 (by kernel_rfl)) (se_call rfl (fx.c__law_arrows_of _ hr) (sa_cons (se_var (i := 9) rfl (vis2 (by kernel_rfl))) (sa_cons (se_var (i := 4) rfl (vis1 (by kernel_rfl))) sa_nil)) rfl (hlen := (len_cons (len_cons len_nil)))) rfl (.inr (by kernel_rfl)))
    (sss_cons (ss_if (st_not (st_tr (se_call rfl (fx.c__law_paper _ hr) (sa_cons (se_var (i := 10) rfl (vis1 (by kernel_rfl))) (sa_cons (se_var (i := 1) rfl (vis1 (by kernel_rfl))) (sa_cons (se_var (i := 5) rfl (vis1 (by kernel_rfl))) (sa_cons (se_frz (i := 4) rfl (vis1 (by kernel_rfl))) sa_nil)))) rfl (hlen := (len_cons (len_cons (len_cons (len_cons len_nil))))))))
    (sss_one (ss_ret se_bl))
    sss_nil)
    (sss_cons (ss_if (st_not (st_tr (se_call rfl (fx.c__law_orders_judged _ hr) (sa_cons (se_var (i := 10) rfl (vis1 (by kernel_rfl))) (sa_cons (se_var (i := 1) rfl (vis1 (by kernel_rfl))) (sa_cons (se_var (i := 5) rfl (vis1 (by kernel_rfl))) (sa_cons (se_frz (i := 4) rfl (vis1 (by kernel_rfl))) (sa_cons (se_var (i := 7) rfl (vis1 (by kernel_rfl))) sa_nil))))) rfl (hlen := (len_cons (len_cons (len_cons (len_cons (len_cons len_nil)))))))))
    (sss_one (ss_ret se_bl))
    sss_nil)
    (sss_cons (ss_setT (sd_v (se_call rfl (fx.c__law_ring_of _ hr) (sa_cons (se_var (i := 6) rfl (vis1 (by kernel_rfl))) (sa_cons (se_call rfl (fx.c__law_cell _ hr) (sa_cons (se_var (i := 0) rfl (vis1 (by kernel_rfl))) (sa_cons se_int sa_nil)) rfl (hlen := (len_cons (len_cons len_nil)))) sa_nil)) rfl (hlen := (len_cons (len_cons len_nil))))) (sg_tup rfl (sgs_cons (sg_nm sc_law.nd rfl (loc1 (by kernel_rfl)) (.inr (by kernel_rfl))) (sgs_cons (sg_nm sc_law.nd rfl (loc1 (by kernel_rfl)) (.inr (by kernel_rfl))) sgs_nil))))
    (sss_cons (ss_set (i := 9) sc_law.nd rfl (loc2 (by kernel_rfl)) (se_sl (se_var (i := 9) rfl (vis2 (by kernel_rfl))) so_none (so_some (se_bin op_sub fits_sub se_int (se_blt call_len fits_len rfl fx.b_len boot_len (sa_cons (se_var (i := 11) rfl (vis1 (by kernel_rfl))) sa_nil))))) rfl (.inl (by kernel_rfl)))
    (sss_cons (ss_set (i := 4) sc_law.nd rfl (loc1 (by kernel_rfl)) (se_sl (se_var (i := 4) rfl (vis1 (by kernel_rfl))) so_none (so_some (se_blt call_len fits_len rfl fx.b_len boot_len (sa_cons (se_var (i := 9) rfl (vis2 (by kernel_rfl))) sa_nil)))) rfl (.inr (by kernel_rfl)))
    (sss_cons (ss_setLc (i := 13) (own := [("k", 18)]) rfl sc_law.nd rfl (by kernel_rfl) rfl (si_rg1 rfl fx.b_range (se_blt call_len fits_len rfl fx.b_len boot_len (sa_cons (se_var (i := 11) rfl (vis1 (by kernel_rfl))) sa_nil))) (blkB_ok (by kernel_rfl)) (fun s H C cl fp => (sn_nm sc_law.nd rfl (loc1 (by kernel_rfl)) (.inr (by kernel_rfl)))) (fun s H C cl fp => sc_nil) (fun s H C cl fp => (se_bin op_addA fits_add (se_blt call_len fits_len rfl fx.b_len boot_len (sa_cons (se_var (i := 9) rfl (vis2 (by kernel_rfl))) sa_nil)) (se_var (i := 18) rfl (vis1 (by kernel_rfl))))))
    (sss_cons (ss_set (i := 14) sc_law.nd rfl (loc1 (by kernel_rfl)) (se_bin op_addA fits_add (se_var (i := 9) rfl (vis2 (by kernel_rfl))) (se_var (i := 11) rfl (vis1 (by kernel_rfl)))) rfl (.inr (by kernel_rfl)))
    (sss_cons (ss_set (i := 4) sc_law.nd rfl (loc1 (by kernel_rfl)) (se_bin op_addA fits_add (se_var (i := 4) rfl (vis1 (by kernel_rfl))) (se_var (i := 12) rfl (vis1 (by kernel_rfl)))) rfl (.inr (by kernel_rfl)))
    (sss_cons (ss_if (st_cmp (op_eqD hr.units) fits_eq (se_bin op_modN fits_mod (se_bltT call_intA fits_int rfl fx.b_int boot_int (sa_cons (se_bin op_fdivA fits_fdiv (se_call rfl (fx.c__law_cell _ hr) (sa_cons (se_var (i := 0) rfl (vis1 (by kernel_rfl))) (sa_cons se_int sa_nil)) rfl (hlen := (len_cons (len_cons len_nil)))) se_int) sa_nil)) se_int) se_int)
    (sss_cons (ss_set (i := 13) sc_law.nd rfl (loc1 (by kernel_rfl)) (se_lrg1 rfl rfl fx.b_list rfl fx.b_range (se_blt call_len fits_len rfl fx.b_len boot_len (sa_cons (se_var (i := 11) rfl (vis1 (by kernel_rfl))) sa_nil))) rfl (.inr (by kernel_rfl)))
    (sss_cons (ss_set (i := 14) sc_law.nd rfl (loc1 (by kernel_rfl)) (se_bin op_addA fits_add (se_var (i := 11) rfl (vis1 (by kernel_rfl))) (se_var (i := 9) rfl (vis2 (by kernel_rfl)))) rfl (.inr (by kernel_rfl)))
    (sss_one (ss_set (i := 4) sc_law.nd rfl (loc1 (by kernel_rfl)) (se_bin op_addA fits_add (se_var (i := 12) rfl (vis1 (by kernel_rfl))) (se_sl (se_var (i := 4) rfl (vis1 (by kernel_rfl))) so_none (so_some (se_blt call_len fits_len rfl fx.b_len boot_len (sa_cons (se_var (i := 9) rfl (vis2 (by kernel_rfl))) sa_nil))))) rfl (.inr (by kernel_rfl))))))
    sss_nil)
    (sss_cons (ss_set (i := 15) sc_law.nd rfl (loc1 (by kernel_rfl)) (se_make rfl (fx.m_Graph _ hr) (sa_cons (se_frz (i := 1) rfl (vis1 (by kernel_rfl))) (sa_cons (se_var (i := 14) rfl (vis1 (by kernel_rfl))) sa_nil)) rfl (hlen := (len_cons (len_cons len_nil)))) rfl (.inr (by kernel_rfl)))
    (sss_cons (ss_set (i := 5) sc_law.nd rfl (loc1 (by kernel_rfl)) (se_call rfl (fx.c__law_arrows_of _ hr) (sa_cons (se_var (i := 14) rfl (vis1 (by kernel_rfl))) (sa_cons (se_var (i := 4) rfl (vis1 (by kernel_rfl))) sa_nil)) rfl (hlen := (len_cons (len_cons len_nil)))) rfl (.inr (by kernel_rfl)))
    (sss_cons (ss_if (st_not (st_tr (se_call rfl (fx.c__law_paper _ hr) (sa_cons (se_var (i := 15) rfl (vis1 (by kernel_rfl))) (sa_cons (se_var (i := 1) rfl (vis1 (by kernel_rfl))) (sa_cons (se_var (i := 5) rfl (vis1 (by kernel_rfl))) (sa_cons (se_frz (i := 4) rfl (vis1 (by kernel_rfl))) sa_nil)))) rfl (hlen := (len_cons (len_cons (len_cons (len_cons len_nil))))))))
    (sss_one (ss_ret se_bl))
    sss_nil)
    (sss_cons (ss_set (i := 16) sc_law.nd rfl (loc1 (by kernel_rfl)) (se_call rfl (fx.c__law_bent_rounds _ hr) (sa_cons (se_blt call_len fits_len rfl fx.b_len boot_len (sa_cons (se_var (i := 14) rfl (vis1 (by kernel_rfl))) sa_nil)) (sa_cons (se_frz (i := 13) rfl (vis1 (by kernel_rfl))) (sa_cons (se_call rfl (fx.c__law_cell _ hr) (sa_cons (se_var (i := 0) rfl (vis1 (by kernel_rfl))) (sa_cons se_int sa_nil)) rfl (hlen := (len_cons (len_cons len_nil)))) sa_nil))) rfl (hlen := (len_cons (len_cons (len_cons len_nil))))) rfl (.inr (by kernel_rfl)))
    (sss_cons (ss_if (st_not (st_tr (se_call rfl (fx.c__law_rounds_judged _ hr) (sa_cons (se_var (i := 15) rfl (vis1 (by kernel_rfl))) (sa_cons (se_var (i := 5) rfl (vis1 (by kernel_rfl))) (sa_cons (se_frz (i := 4) rfl (vis1 (by kernel_rfl))) (sa_cons (se_var (i := 16) rfl (vis1 (by kernel_rfl))) sa_nil)))) rfl (hlen := (len_cons (len_cons (len_cons (len_cons len_nil))))))))
    (sss_one (ss_ret se_bl))
    sss_nil)
    (sss_cons (ss_if (st_not (st_tr (se_call rfl (fx.c__law_orders_judged _ hr) (sa_cons (se_var (i := 15) rfl (vis1 (by kernel_rfl))) (sa_cons (se_var (i := 1) rfl (vis1 (by kernel_rfl))) (sa_cons (se_var (i := 5) rfl (vis1 (by kernel_rfl))) (sa_cons (se_frz (i := 4) rfl (vis1 (by kernel_rfl))) (sa_cons (se_var (i := 7) rfl (vis1 (by kernel_rfl))) sa_nil))))) rfl (hlen := (len_cons (len_cons (len_cons (len_cons (len_cons len_nil)))))))))
    (sss_one (ss_ret se_bl))
    sss_nil)
    (sss_cons (ss_set (i := 17) sc_law.nd rfl (loc1 (by kernel_rfl)) (se_call rfl (fx.c__law_cell _ hr) (sa_cons (se_var (i := 0) rfl (vis1 (by kernel_rfl))) (sa_cons se_int sa_nil)) rfl (hlen := (len_cons (len_cons len_nil)))) rfl (.inr (by kernel_rfl)))
    (sss_cons (ss_if (st_not (st_tr (se_call rfl (fx.c__law_refused _ hr) (sa_cons (se_var (i := 15) rfl (vis1 (by kernel_rfl))) (sa_cons (se_blt call_len fits_len rfl fx.b_len boot_len (sa_cons (se_var (i := 14) rfl (vis1 (by kernel_rfl))) sa_nil)) (sa_cons (se_frz (i := 4) rfl (vis1 (by kernel_rfl))) (sa_cons (se_var (i := 13) rfl (vis1 (by kernel_rfl))) (sa_cons (se_var (i := 17) rfl (vis1 (by kernel_rfl))) sa_nil))))) rfl (hlen := (len_cons (len_cons (len_cons (len_cons (len_cons len_nil)))))))))
    (sss_one (ss_ret se_bl))
    sss_nil)
    (sss_one (ss_ret (se_call0 rfl (fx.c__law_nothing _ hr) rfl)))))))))))))))))))))))))))))))))))
end
def dd_check_signs : He.DefD := ⟨("check_signs", none), "check_signs", "check_signs", defArgs (top 9), defBody (top 9), defScope (top 9), [], []⟩
def dd_arrows_of : He.DefD := ⟨("arrows_of", none), "arrows_of", "arrows_of", defArgs (top 10), defBody (top 10), defScope (top 10), [], []⟩
def dd__round_within : He.DefD := ⟨("_round_within", none), "_round_within", "_round_within", defArgs (top 11), defBody (top 11), defScope (top 11), [], []⟩
def dd_order_paper : He.DefD := ⟨("order_paper", none), "order_paper", "order_paper", defArgs (top 12), defBody (top 12), defScope (top 12), [], []⟩
def dd_shows_order : He.DefD := ⟨("shows_order", none), "shows_order", "shows_order", defArgs (top 13), defBody (top 13), defScope (top 13), [], []⟩
def dd_shows_round : He.DefD := ⟨("shows_round", none), "shows_round", "shows_round", defArgs (top 14), defBody (top 14), defScope (top 14), [], []⟩
def dd_Graph : He.DefD := ⟨("Graph", some "__init__"), "__init__", "Graph.__init__", defArgs (inCls 22 0), defBody (inCls 22 0), defScope (inCls 22 0), [], []⟩
def dd__law_cell : He.DefD := ⟨("_law_cell", none), "_law_cell", "_law_cell", defArgs (top 24), defBody (top 24), defScope (top 24), [], []⟩
def dd__law_alike : He.DefD := ⟨("_law_alike", none), "_law_alike", "_law_alike", defArgs (top 25), defBody (top 25), defScope (top 25), [], []⟩
def dd__law_edge : He.DefD := ⟨("_law_edge", none), "_law_edge", "_law_edge", defArgs (top 26), defBody (top 26), defScope (top 26), [], []⟩
def dd__law_world : He.DefD := ⟨("_law_world", none), "_law_world", "_law_world", defArgs (top 27), defBody (top 27), defScope (top 27), [], []⟩
def dd__law_drawn_signs : He.DefD := ⟨("_law_drawn_signs", none), "_law_drawn_signs", "_law_drawn_signs", defArgs (top 28), defBody (top 28), defScope (top 28), [], []⟩
def dd__law_drawn_order : He.DefD := ⟨("_law_drawn_order", none), "_law_drawn_order", "_law_drawn_order", defArgs (top 29), defBody (top 29), defScope (top 29), [], []⟩
def dd__law_arrows_of : He.DefD := ⟨("_law_arrows_of", none), "_law_arrows_of", "_law_arrows_of", defArgs (top 30), defBody (top 30), defScope (top 30), [], []⟩
def dd__law_along : He.DefD := ⟨("_law_along", none), "_law_along", "_law_along", defArgs (top 31), defBody (top 31), defScope (top 31), [], []⟩
def dd__law_ring_of : He.DefD := ⟨("_law_ring_of", none), "_law_ring_of", "_law_ring_of", defArgs (top 32), defBody (top 32), defScope (top 32), [], []⟩
def dd__law_reach_of : He.DefD := ⟨("_law_reach_of", none), "_law_reach_of", "_law_reach_of", defArgs (top 33), defBody (top 33), defScope (top 33), [], []⟩
def dd__law_has_round : He.DefD := ⟨("_law_has_round", none), "_law_has_round", "_law_has_round", defArgs (top 34), defBody (top 34), defScope (top 34), [], []⟩
def dd__law_is_order : He.DefD := ⟨("_law_is_order", none), "_law_is_order", "_law_is_order", defArgs (top 35), defBody (top 35), defScope (top 35), [], []⟩
def dd__law_is_round : He.DefD := ⟨("_law_is_round", none), "_law_is_round", "_law_is_round", defArgs (top 36), defBody (top 36), defScope (top 36), [], []⟩
def dd__law_plain_row : He.DefD := ⟨("_law_plain_row", none), "_law_plain_row", "_law_plain_row", defArgs (top 37), defBody (top 37), defScope (top 37), [], []⟩
def dd__law_paper : He.DefD := ⟨("_law_paper", none), "_law_paper", "_law_paper", defArgs (top 38), defBody (top 38), defScope (top 38), [], []⟩
def dd__law_bent_orders : He.DefD := ⟨("_law_bent_orders", none), "_law_bent_orders", "_law_bent_orders", defArgs (top 39), defBody (top 39), defScope (top 39), [], []⟩
def dd__law_bent_rounds : He.DefD := ⟨("_law_bent_rounds", none), "_law_bent_rounds", "_law_bent_rounds", defArgs (top 40), defBody (top 40), defScope (top 40), [], []⟩
def dd__law_orders_judged : He.DefD := ⟨("_law_orders_judged", none), "_law_orders_judged", "_law_orders_judged", defArgs (top 41), defBody (top 41), defScope (top 41), [], []⟩
def dd__law_rounds_judged : He.DefD := ⟨("_law_rounds_judged", none), "_law_rounds_judged", "_law_rounds_judged", defArgs (top 42), defBody (top 42), defScope (top 42), [], []⟩
def dd__law_called : He.DefD := ⟨("_law_called", none), "_law_called", "_law_called", defArgs (top 43), defBody (top 43), defScope (top 43), [], []⟩
def dd__law_fate : He.DefD := ⟨("_law_fate", none), "_law_fate", "_law_fate", defArgs (top 44), defBody (top 44), defScope (top 44), [], []⟩
def dd__law_refused : He.DefD := ⟨("_law_refused", none), "_law_refused", "_law_refused", defArgs (top 45), defBody (top 45), defScope (top 45), [], []⟩
def dd__law_nothing : He.DefD := ⟨("_law_nothing", none), "_law_nothing", "_law_nothing", defArgs (top 46), defBody (top 46), defScope (top 46), [], []⟩
def dd_law : He.DefD := ⟨("law", none), "law", "law", defArgs (top 47), defBody (top 47), defScope (top 47), [], []⟩
def fnL : List He.DefD := [dd_check_signs, dd_arrows_of, dd__round_within, dd_order_paper, dd_shows_order, dd_shows_round, dd_Graph, dd__law_cell, dd__law_alike, dd__law_edge, dd__law_world, dd__law_drawn_signs, dd__law_drawn_order, dd__law_arrows_of, dd__law_along, dd__law_ring_of, dd__law_reach_of, dd__law_has_round, dd__law_is_order, dd__law_is_round, dd__law_plain_row, dd__law_paper, dd__law_bent_orders, dd__law_bent_rounds, dd__law_orders_judged, dd__law_rounds_judged, dd__law_called, dd__law_fate, dd__law_refused, dd__law_nothing, dd_law]
def faL : List He.Fa := [.glo ("check_signs" : Str),
  .glo ("arrows_of" : Str),
  .glo ("_round_within" : Str),
  .glo ("order_paper" : Str),
  .glo ("shows_order" : Str),
  .glo ("shows_round" : Str),
  .glo ("Graph" : Str),
  .glo ("_law_cell" : Str),
  .glo ("_law_alike" : Str),
  .glo ("_law_edge" : Str),
  .glo ("_law_world" : Str),
  .glo ("_law_drawn_signs" : Str),
  .glo ("_law_drawn_order" : Str),
  .glo ("_law_arrows_of" : Str),
  .glo ("_law_along" : Str),
  .glo ("_law_ring_of" : Str),
  .glo ("_law_reach_of" : Str),
  .glo ("_law_has_round" : Str),
  .glo ("_law_is_order" : Str),
  .glo ("_law_is_round" : Str),
  .glo ("_law_plain_row" : Str),
  .glo ("_law_paper" : Str),
  .glo ("_law_bent_orders" : Str),
  .glo ("_law_bent_rounds" : Str),
  .glo ("_law_orders_judged" : Str),
  .glo ("_law_rounds_judged" : Str),
  .glo ("_law_called" : Str),
  .glo ("_law_fate" : Str),
  .glo ("_law_refused" : Str),
  .glo ("_law_nothing" : Str),
  .glo ("law" : Str),
  .mkr ("Graph" : Str),
  .free ("len" : Str),
  .free ("range" : Str),
  .free ("int" : Str),
  .free ("list" : Str),
  .glo ("TooLarge" : Str),
  .exc ("TooLarge" : Str),
  .glo ("BadEdge" : Str),
  .free ("tuple" : Str),
  .cls ("Graph" : Str),
  .noat ("Graph" : Str) ("nodes" : Str),
  .noat ("Graph" : Str) ("edges" : Str),
  .noat ("Graph" : Str) ("size" : Str),
  .noat ("Graph" : Str) ("text" : Str),
  .free ("str" : Str),
  .free ("abs" : Str),
  .free ("isinstance" : Str),
  .free ("max" : Str),
  .free ("bool" : Str),
  .free ("sorted" : Str),
  .free ("enumerate" : Str),
  .glo ("BadElement" : Str),
  .free ("set" : Str),
  .glo ("StrikejoinError" : Str),
  .glo ("BadSigns" : Str),
  .free ("ValueError" : Str),
  .free ("zip" : Str)]
abbrev PP : Program := (PySem.Challenge.rw_strikejoin_k56_direction_papers).prog
def xd_BadEdge : XiD := ⟨("BadEdge" : Str), "BadEdge.__init__", defArgs (inCls 5 0), defBody (inCls 5 0), defScope (inCls 5 0)⟩
def xd_BadElement : XiD := ⟨("BadElement" : Str), "BadElement.__init__", defArgs (inCls 4 0), defBody (inCls 4 0), defScope (inCls 4 0)⟩
def xd_BadSigns : XiD := ⟨("BadSigns" : Str), "BadSigns.__init__", defArgs (inCls 6 0), defBody (inCls 6 0), defScope (inCls 6 0)⟩
def xiL : List XiD := [xd_BadEdge, xd_BadElement, xd_BadSigns]
theorem xt_BadEdge : ∃ j p0 p1 p2 p3 p4 p5 pa pf ps pb pt pc, XTxt xd_BadEdge ("self" : Str) ("edge" : Str) ("the pair is not an edge of the nodes" : Str) ("edge" : Str) j p0 p1 p2 p3 p4 p5 pa pf ps (.Call (.Name "tuple" pt) [.Name ("edge" : Str) pb] [] pc) :=
  ⟨_, _, _, _, _, _, _, _, _, _, _, _, _, rfl, ⟨rfl, rfl, rfl, by decide, rfl, rfl, rfl, rfl, by decide +kernel, fun x h => (by decide +kernel : ∀ p ∈ xd_BadEdge.scope.names, p.2 = .free → p.1 = "__class__") (x, .free) (PySem.mem_of_lookup h) rfl⟩, ⟨_, _, rfl, rfl⟩, fun _ _ _ _ => rfl, fun _ _ _ _ => ⟨_, rfl⟩, fun _ _ _ _ => rfl, by decide, by decide, by decide, by decide, fun _ _ _ _ _ _ _ us hl => match us, hl with | [_, _], _ => rfl⟩
theorem xt_BadElement : ∃ j p0 p1 p2 p3 p4 p5 pa pf ps pb, XTxt xd_BadElement ("self" : Str) ("element" : Str) ("not an element that is asked for" : Str) ("element" : Str) j p0 p1 p2 p3 p4 p5 pa pf ps (.Name ("element" : Str) pb) :=
  ⟨_, _, _, _, _, _, _, _, _, _, _, rfl, ⟨rfl, rfl, rfl, by decide, rfl, rfl, rfl, rfl, by decide +kernel, fun x h => (by decide +kernel : ∀ p ∈ xd_BadElement.scope.names, p.2 = .free → p.1 = "__class__") (x, .free) (PySem.mem_of_lookup h) rfl⟩, ⟨_, _, rfl, rfl⟩, fun _ _ _ _ => rfl, fun _ _ _ _ => ⟨_, rfl⟩, fun _ _ _ _ => rfl, by decide, by decide, by decide, by decide, fun _ _ _ _ _ _ _ us hl => match us, hl with | [_, _], _ => rfl⟩
theorem xt_BadSigns : ∃ j p0 p1 p2 p3 p4 p5 pa pf ps pb, XTxt xd_BadSigns ("self" : Str) ("signs" : Str) ("not one sign for each element" : Str) ("signs" : Str) j p0 p1 p2 p3 p4 p5 pa pf ps (.Name ("signs" : Str) pb) :=
  ⟨_, _, _, _, _, _, _, _, _, _, _, rfl, ⟨rfl, rfl, rfl, by decide, rfl, rfl, rfl, rfl, by decide +kernel, fun x h => (by decide +kernel : ∀ p ∈ xd_BadSigns.scope.names, p.2 = .free → p.1 = "__class__") (x, .free) (PySem.mem_of_lookup h) rfl⟩, ⟨_, _, rfl, rfl⟩, fun _ _ _ _ => rfl, fun _ _ _ _ => ⟨_, rfl⟩, fun _ _ _ _ => rfl, by decide, by decide, by decide, by decide, fun _ _ _ _ _ _ _ us hl => match us, hl with | [_, _], _ => rfl⟩
def exB (K : PySem.W.Frag) : Bool := cstB K ("MOST_NODES" : Str) (.int 10) && (cstB K ("MOST_EDGES" : Str) (.int 10) && (xiB PP K xd_BadEdge && (decide (PySem.W.findIn K (.ref (He.ga K ("BadEdge" : Str))) ("edge" : Str) = some none) && (xiB PP K xd_BadElement && (decide (PySem.W.findIn K (.ref (He.ga K ("BadElement" : Str))) ("element" : Str) = some none) && (suB K (.own ("StrikejoinError" : Str)) [("BadEdge", true), ("BadElement", true), ("BadSigns", true), ("TooLarge", true)] && (isB K (.own ("BadSigns" : Str)) [("BadEdge", false), ("BadElement", false), ("BadSigns", true), ("TooLarge", false)] && (isB K (.own ("BadElement" : Str)) [("BadEdge", false), ("BadElement", true), ("BadSigns", false), ("TooLarge", false)] && (isB K (.ty "ValueError") [("BadEdge", true), ("BadElement", true), ("BadSigns", true), ("TooLarge", true)] && (xfsB K xs_signs ("signs" : Str) && (xfsB K xs_element ("element" : Str) && (xiB PP K xd_BadSigns && (decide (PySem.W.findIn K (.ref (He.ga K ("BadSigns" : Str))) ("signs" : Str) = some none) && (cstB K ("SIGNS" : Str) (.str "+-") && (true)))))))))))))))
structure ExK (K : PySem.W.Frag) : Prop where
  any : True
  k_MOST_NODES : cstB K ("MOST_NODES" : Str) (.int 10) = true
  k_MOST_EDGES : cstB K ("MOST_EDGES" : Str) (.int 10) = true
  xb_BadEdge : xiB PP K xd_BadEdge = true
  xn_BadEdge : decide (PySem.W.findIn K (.ref (He.ga K ("BadEdge" : Str))) ("edge" : Str) = some none) = true
  xb_BadElement : xiB PP K xd_BadElement = true
  xn_BadElement : decide (PySem.W.findIn K (.ref (He.ga K ("BadElement" : Str))) ("element" : Str) = some none) = true
  s_StrikejoinError : suB K (.own ("StrikejoinError" : Str)) [("BadEdge", true), ("BadElement", true), ("BadSigns", true), ("TooLarge", true)] = true
  i_BadSigns : isB K (.own ("BadSigns" : Str)) [("BadEdge", false), ("BadElement", false), ("BadSigns", true), ("TooLarge", false)] = true
  i_BadElement : isB K (.own ("BadElement" : Str)) [("BadEdge", false), ("BadElement", true), ("BadSigns", false), ("TooLarge", false)] = true
  i_ValueError : isB K (.ty "ValueError") [("BadEdge", true), ("BadElement", true), ("BadSigns", true), ("TooLarge", true)] = true
  xf_signs : xfsB K xs_signs ("signs" : Str) = true
  xf_element : xfsB K xs_element ("element" : Str) = true
  xb_BadSigns : xiB PP K xd_BadSigns = true
  xn_BadSigns : decide (PySem.W.findIn K (.ref (He.ga K ("BadSigns" : Str))) ("signs" : Str) = some none) = true
  k_SIGNS : cstB K ("SIGNS" : Str) (.str "+-") = true
abbrev Sx (K : PySem.W.Frag) : Prop := SaysM faL fnL xiL exB K
section
variable {w : World} {K : PySem.W.Frag} {mg : Str → Option Value} {base h : Heap} {n : Nat}
theorem exc (c : Sx K) : ExK K := by
  have q := c.l.more
  unfold exB at q
  simp only [Bool.and_eq_true] at q
  exact ⟨trivial, q.1, q.2.1, q.2.2.1, q.2.2.2.1, q.2.2.2.2.1, q.2.2.2.2.2.1, q.2.2.2.2.2.2.1, q.2.2.2.2.2.2.2.1, q.2.2.2.2.2.2.2.2.1, q.2.2.2.2.2.2.2.2.2.1, q.2.2.2.2.2.2.2.2.2.2.1, q.2.2.2.2.2.2.2.2.2.2.2.1, q.2.2.2.2.2.2.2.2.2.2.2.2.1, q.2.2.2.2.2.2.2.2.2.2.2.2.2.1, q.2.2.2.2.2.2.2.2.2.2.2.2.2.2.1⟩
theorem glo1 (c : Sx K) (I : K.In h) (G : h.Ns mainGlobals mg) (x : Str) (hx : x ∈ (["BadEdge", "BadElement", "BadSigns", "TooLarge"] : List Str)) : mg x = some (.ref (He.ga K x)) := by
  simp only [List.mem_cons, List.not_mem_nil, or_false] at hx
  rcases hx with rfl | rfl | rfl | rfl
  · exact He.glo_ok I G (c.l.d.fact 38 (f := .glo ("BadEdge" : Str)) rfl)
  · exact He.glo_ok I G (c.l.d.fact 52 (f := .glo ("BadElement" : Str)) rfl)
  · exact He.glo_ok I G (c.l.d.fact 55 (f := .glo ("BadSigns" : Str)) rfl)
  · exact He.glo_ok I G (c.l.d.fact 36 (f := .glo ("TooLarge" : Str)) rfl)
theorem xk_BadEdge (c : Sx K) (I : K.In h) (G : h.Ns mainGlobals mg) (A : Around) (hr : Room (2 * (n + 1) + 1) A) : XcOk ⟨PP, w, K, mg, base, A⟩ ("BadEdge" : Str) ("edge" : Str) (rTp K) := by
  obtain ⟨j, p0, p1, p2, p3, p4, p5, pa, pf, ps, pb, pt, pc, xt⟩ := xt_BadEdge
  exact xc_tupl (d := xd_BadEdge) (xi_ok (SaysM.xi c (by simp [xiL])) (exc c).xb_BadEdge I G) xt (He.glo_ok I G (c.l.d.fact 38 (f := .glo ("BadEdge" : Str)) rfl)) (of_decide_eq_true (exc c).xn_BadEdge) (hr.mono (by omega)) (by kernel_rfl) (He.free_ok I G (c.l.d.fact 39 (f := .free ("tuple" : Str)) rfl))
theorem xk_BadElement (c : Sx K) (I : K.In h) (G : h.Ns mainGlobals mg) (A : Around) (hr : Room (2 * (n + 1) + 1) A) : XcOk ⟨PP, w, K, mg, base, A⟩ ("BadElement" : Str) ("element" : Str) rId := by
  obtain ⟨j, p0, p1, p2, p3, p4, p5, pa, pf, ps, pb, xt⟩ := xt_BadElement
  exact xc_keep (d := xd_BadElement) (xi_ok (SaysM.xi c (by simp [xiL])) (exc c).xb_BadElement I G) xt (He.glo_ok I G (c.l.d.fact 52 (f := .glo ("BadElement" : Str)) rfl)) (of_decide_eq_true (exc c).xn_BadElement) (hr.mono (by omega))
theorem xk_BadSigns (c : Sx K) (I : K.In h) (G : h.Ns mainGlobals mg) (A : Around) (hr : Room (2 * (n + 1) + 1) A) : XcOk ⟨PP, w, K, mg, base, A⟩ ("BadSigns" : Str) ("signs" : Str) rId := by
  obtain ⟨j, p0, p1, p2, p3, p4, p5, pa, pf, ps, pb, xt⟩ := xt_BadSigns
  exact xc_keep (d := xd_BadSigns) (xi_ok (SaysM.xi c (by simp [xiL])) (exc c).xb_BadSigns I G) xt (He.glo_ok I G (c.l.d.fact 55 (f := .glo ("BadSigns" : Str)) rfl)) (of_decide_eq_true (exc c).xn_BadSigns) (hr.mono (by omega))
theorem mk (c : Sx K) (I : K.In h) (G : h.Ns mainGlobals mg) (n : Nat) (ih : ∀ m, n = m + 1 → Fx PP w K mg base m) : Fx PP w K mg base n where
  c__law_world := cOk_all (d := FI__law_world) (c.l.d.defs (d := dd__law_world) (by simp [fnL])) sc__law_world rfl rfl tb__law_world (He.glo_ok I G (c.l.d.fact 10 (f := .glo ("_law_world" : Str)) rfl)) (fun fd Fd => Fd.bindsN fun _ _ _ _ _ _ us hl => match us, hl with | [_], _ => rfl) rfl (fun m e cdv A outer s H E hr => der__law_world (ih m e) cdv A outer s H E _ hr)
  m_Graph := mOk_all (d := FI_Graph) (c.l.d.defs (d := dd_Graph) (by simp [fnL])) sc_Graph rfl rfl tb_Graph (He.glo_ok I G (c.l.d.fact 6 (f := .glo ("Graph" : Str)) rfl)) (He.mkr_ok (c.l.d.fact 31 (f := .mkr ("Graph" : Str)) rfl)) (fun fd Fd => Fd.bindsN fun _ _ _ _ _ _ us hl => match us, hl with | [_, _, _], _ => rfl) rfl (fun m e cdv A outer s H E hr => der_Graph (ih m e) cdv A outer s H E _ hr)
  b_len := (He.free_ok I G (c.l.d.fact 32 (f := .free ("len" : Str)) rfl))
  c__law_cell := cOk_all (d := FI__law_cell) (c.l.d.defs (d := dd__law_cell) (by simp [fnL])) sc__law_cell rfl rfl tb__law_cell (He.glo_ok I G (c.l.d.fact 7 (f := .glo ("_law_cell" : Str)) rfl)) (fun fd Fd => Fd.bindsN fun _ _ _ _ _ _ us hl => match us, hl with | [_, _], _ => rfl) rfl (fun m e cdv A outer s H E hr => der__law_cell (ih m e) cdv A outer s H E _ hr)
  c__law_drawn_signs := cOk_all (d := FI__law_drawn_signs) (c.l.d.defs (d := dd__law_drawn_signs) (by simp [fnL])) sc__law_drawn_signs rfl rfl tb__law_drawn_signs (He.glo_ok I G (c.l.d.fact 11 (f := .glo ("_law_drawn_signs" : Str)) rfl)) (fun fd Fd => Fd.bindsN fun _ _ _ _ _ _ us hl => match us, hl with | [_, _], _ => rfl) rfl (fun m e cdv A outer s H E hr => der__law_drawn_signs (ih m e) cdv A outer s H E _ hr)
  c__law_arrows_of := cOk_all (d := FI__law_arrows_of) (c.l.d.defs (d := dd__law_arrows_of) (by simp [fnL])) sc__law_arrows_of rfl rfl tb__law_arrows_of (He.glo_ok I G (c.l.d.fact 13 (f := .glo ("_law_arrows_of" : Str)) rfl)) (fun fd Fd => Fd.bindsN fun _ _ _ _ _ _ us hl => match us, hl with | [_, _], _ => rfl) rfl (fun m e cdv A outer s H E hr => der__law_arrows_of (ih m e) cdv A outer s H E _ hr)
  c__law_drawn_order := cOk_all (d := FI__law_drawn_order) (c.l.d.defs (d := dd__law_drawn_order) (by simp [fnL])) sc__law_drawn_order rfl rfl tb__law_drawn_order (He.glo_ok I G (c.l.d.fact 12 (f := .glo ("_law_drawn_order" : Str)) rfl)) (fun fd Fd => Fd.bindsN fun _ _ _ _ _ _ us hl => match us, hl with | [_, _], _ => rfl) rfl (fun m e cdv A outer s H E hr => der__law_drawn_order (ih m e) cdv A outer s H E _ hr)
  c__law_bent_orders := cOk_all (d := FI__law_bent_orders) (c.l.d.defs (d := dd__law_bent_orders) (by simp [fnL])) sc__law_bent_orders rfl rfl tb__law_bent_orders (He.glo_ok I G (c.l.d.fact 22 (f := .glo ("_law_bent_orders" : Str)) rfl)) (fun fd Fd => Fd.bindsN fun _ _ _ _ _ _ us hl => match us, hl with | [_, _, _], _ => rfl) rfl (fun m e cdv A outer s H E hr => der__law_bent_orders (ih m e) cdv A outer s H E _ hr)
  c__law_paper := cOk_all (d := FI__law_paper) (c.l.d.defs (d := dd__law_paper) (by simp [fnL])) sc__law_paper rfl rfl tb__law_paper (He.glo_ok I G (c.l.d.fact 21 (f := .glo ("_law_paper" : Str)) rfl)) (fun fd Fd => Fd.bindsN fun _ _ _ _ _ _ us hl => match us, hl with | [_, _, _, _], _ => rfl) rfl (fun m e cdv A outer s H E hr => der__law_paper (ih m e) cdv A outer s H E _ hr)
  c__law_orders_judged := cOk_all (d := FI__law_orders_judged) (c.l.d.defs (d := dd__law_orders_judged) (by simp [fnL])) sc__law_orders_judged rfl rfl tb__law_orders_judged (He.glo_ok I G (c.l.d.fact 24 (f := .glo ("_law_orders_judged" : Str)) rfl)) (fun fd Fd => Fd.bindsN fun _ _ _ _ _ _ us hl => match us, hl with | [_, _, _, _, _], _ => rfl) rfl (fun m e cdv A outer s H E hr => der__law_orders_judged (ih m e) cdv A outer s H E _ hr)
  b_range := (He.free_ok I G (c.l.d.fact 33 (f := .free ("range" : Str)) rfl))
  c__law_rounds_judged := cOk_all (d := FI__law_rounds_judged) (c.l.d.defs (d := dd__law_rounds_judged) (by simp [fnL])) sc__law_rounds_judged rfl rfl tb__law_rounds_judged (He.glo_ok I G (c.l.d.fact 25 (f := .glo ("_law_rounds_judged" : Str)) rfl)) (fun fd Fd => Fd.bindsN fun _ _ _ _ _ _ us hl => match us, hl with | [_, _, _, _], _ => rfl) rfl (fun m e cdv A outer s H E hr => der__law_rounds_judged (ih m e) cdv A outer s H E _ hr)
  c__law_refused := cOk_all (d := FI__law_refused) (c.l.d.defs (d := dd__law_refused) (by simp [fnL])) sc__law_refused rfl rfl tb__law_refused (He.glo_ok I G (c.l.d.fact 28 (f := .glo ("_law_refused" : Str)) rfl)) (fun fd Fd => Fd.bindsN fun _ _ _ _ _ _ us hl => match us, hl with | [_, _, _, _, _], _ => rfl) rfl (fun m e cdv A outer s H E hr => der__law_refused (ih m e) cdv A outer s H E _ hr)
  c__law_along := cOk_all (d := FI__law_along) (c.l.d.defs (d := dd__law_along) (by simp [fnL])) sc__law_along rfl rfl tb__law_along (He.glo_ok I G (c.l.d.fact 14 (f := .glo ("_law_along" : Str)) rfl)) (fun fd Fd => Fd.bindsN fun _ _ _ _ _ _ us hl => match us, hl with | [_, _], _ => rfl) rfl (fun m e cdv A outer s H E hr => der__law_along (ih m e) cdv A outer s H E _ hr)
  c__law_ring_of := cOk_all (d := FI__law_ring_of) (c.l.d.defs (d := dd__law_ring_of) (by simp [fnL])) sc__law_ring_of rfl rfl tb__law_ring_of (He.glo_ok I G (c.l.d.fact 15 (f := .glo ("_law_ring_of" : Str)) rfl)) (fun fd Fd => Fd.bindsN fun _ _ _ _ _ _ us hl => match us, hl with | [_, _], _ => rfl) rfl (fun m e cdv A outer s H E hr => der__law_ring_of (ih m e) cdv A outer s H E _ hr)
  b_int := (He.free_ok I G (c.l.d.fact 34 (f := .free ("int" : Str)) rfl))
  b_list := (He.free_ok I G (c.l.d.fact 35 (f := .free ("list" : Str)) rfl))
  c__law_bent_rounds := cOk_all (d := FI__law_bent_rounds) (c.l.d.defs (d := dd__law_bent_rounds) (by simp [fnL])) sc__law_bent_rounds rfl rfl tb__law_bent_rounds (He.glo_ok I G (c.l.d.fact 23 (f := .glo ("_law_bent_rounds" : Str)) rfl)) (fun fd Fd => Fd.bindsN fun _ _ _ _ _ _ us hl => match us, hl with | [_, _, _], _ => rfl) rfl (fun m e cdv A outer s H E hr => der__law_bent_rounds (ih m e) cdv A outer s H E _ hr)
  c__law_nothing := cOk_all (d := FI__law_nothing) (c.l.d.defs (d := dd__law_nothing) (by simp [fnL])) sc__law_nothing rfl rfl tb__law_nothing (He.glo_ok I G (c.l.d.fact 29 (f := .glo ("_law_nothing" : Str)) rfl)) (fun fd Fd => Fd.bindsN fun _ _ _ _ _ _ us hl => match us, hl with | [], _ => rfl) rfl (fun m e cdv A outer s H E hr => der__law_nothing (ih m e) cdv A outer s H E _ hr)
  c__law_edge := cOk_all (d := FI__law_edge) (c.l.d.defs (d := dd__law_edge) (by simp [fnL])) sc__law_edge rfl rfl tb__law_edge (He.glo_ok I G (c.l.d.fact 9 (f := .glo ("_law_edge" : Str)) rfl)) (fun fd Fd => Fd.bindsN fun _ _ _ _ _ _ us hl => match us, hl with | [_, _, _], _ => rfl) rfl (fun m e cdv A outer s H E hr => der__law_edge (ih m e) cdv A outer s H E _ hr)
  k_MOST_NODES := (cst_ok I G (exc c).k_MOST_NODES)
  e_TooLarge := (fun A => ⟨_, He.glo_ok I G (c.l.d.fact 36 (f := .glo ("TooLarge" : Str)) rfl), He.exc_ok (c.l.d.fact 37 (f := .exc ("TooLarge" : Str)) rfl)⟩)
  g_TooLarge := (He.glo_ok I G (c.l.d.fact 36 (f := .glo ("TooLarge" : Str)) rfl))
  k_MOST_EDGES := (cst_ok I G (exc c).k_MOST_EDGES)
  x_BadEdge := (fun A hr => xk_BadEdge c I G A hr)
  g_BadEdge := (He.glo_ok I G (c.l.d.fact 38 (f := .glo ("BadEdge" : Str)) rfl))
  b_tuple := (He.free_ok I G (c.l.d.fact 39 (f := .free ("tuple" : Str)) rfl))
  p_Graph_nodes := (fun A c' C hc hm => by
      simp only [List.mem_cons, List.not_mem_nil, or_false] at hc
      rcases hc with rfl
      · cases (He.glo_ok I G (c.l.d.fact 6 (f := .glo ("Graph" : Str)) rfl)).symm.trans hm; exact ⟨He.cls_ok (c.l.d.fact 40 (f := .cls ("Graph" : Str)) rfl), He.noat_ok (c.l.d.fact 41 (f := .noat ("Graph" : Str) ("nodes" : Str)) rfl)⟩)
  p_Graph_edges := (fun A c' C hc hm => by
      simp only [List.mem_cons, List.not_mem_nil, or_false] at hc
      rcases hc with rfl
      · cases (He.glo_ok I G (c.l.d.fact 6 (f := .glo ("Graph" : Str)) rfl)).symm.trans hm; exact ⟨He.cls_ok (c.l.d.fact 40 (f := .cls ("Graph" : Str)) rfl), He.noat_ok (c.l.d.fact 42 (f := .noat ("Graph" : Str) ("edges" : Str)) rfl)⟩)
  p_Graph_size := (fun A c' C hc hm => by
      simp only [List.mem_cons, List.not_mem_nil, or_false] at hc
      rcases hc with rfl
      · cases (He.glo_ok I G (c.l.d.fact 6 (f := .glo ("Graph" : Str)) rfl)).symm.trans hm; exact ⟨He.cls_ok (c.l.d.fact 40 (f := .cls ("Graph" : Str)) rfl), He.noat_ok (c.l.d.fact 43 (f := .noat ("Graph" : Str) ("size" : Str)) rfl)⟩)
  p_Graph_text := (fun A c' C hc hm => by
      simp only [List.mem_cons, List.not_mem_nil, or_false] at hc
      rcases hc with rfl
      · cases (He.glo_ok I G (c.l.d.fact 6 (f := .glo ("Graph" : Str)) rfl)).symm.trans hm; exact ⟨He.cls_ok (c.l.d.fact 40 (f := .cls ("Graph" : Str)) rfl), He.noat_ok (c.l.d.fact 44 (f := .noat ("Graph" : Str) ("text" : Str)) rfl)⟩)
  b_str := (He.free_ok I G (c.l.d.fact 45 (f := .free ("str" : Str)) rfl))
  b_abs := (He.free_ok I G (c.l.d.fact 46 (f := .free ("abs" : Str)) rfl))
  c__law_has_round := cOk_all (d := FI__law_has_round) (c.l.d.defs (d := dd__law_has_round) (by simp [fnL])) sc__law_has_round rfl rfl tb__law_has_round (He.glo_ok I G (c.l.d.fact 17 (f := .glo ("_law_has_round" : Str)) rfl)) (fun fd Fd => Fd.bindsN fun _ _ _ _ _ _ us hl => match us, hl with | [_, _], _ => rfl) rfl (fun m e cdv A outer s H E hr => der__law_has_round (ih m e) cdv A outer s H E _ hr)
  c_order_paper := cOk_all (d := FI_order_paper) (c.l.d.defs (d := dd_order_paper) (by simp [fnL])) sc_order_paper rfl rfl tb_order_paper (He.glo_ok I G (c.l.d.fact 3 (f := .glo ("order_paper" : Str)) rfl)) (fun fd Fd => Fd.bindsN fun _ _ _ _ _ _ us hl => match us, hl with | [_, _], _ => rfl) rfl (fun m e cdv A outer s H E hr => der_order_paper (ih m e) cdv A outer s H E _ hr)
  b_isinstance := (He.free_ok I G (c.l.d.fact 47 (f := .free ("isinstance" : Str)) rfl))
  c__law_alike := cOk_all (d := FI__law_alike) (c.l.d.defs (d := dd__law_alike) (by simp [fnL])) sc__law_alike rfl rfl tb__law_alike (He.glo_ok I G (c.l.d.fact 8 (f := .glo ("_law_alike" : Str)) rfl)) (fun fd Fd => Fd.bindsN fun _ _ _ _ _ _ us hl => match us, hl with | [_, _], _ => rfl) rfl (fun m e cdv A outer s H E hr => der__law_alike (ih m e) cdv A outer s H E _ hr)
  c__law_plain_row := cOk_all (d := FI__law_plain_row) (c.l.d.defs (d := dd__law_plain_row) (by simp [fnL])) sc__law_plain_row rfl rfl tb__law_plain_row (He.glo_ok I G (c.l.d.fact 20 (f := .glo ("_law_plain_row" : Str)) rfl)) (fun fd Fd => Fd.bindsN fun _ _ _ _ _ _ us hl => match us, hl with | [_], _ => rfl) rfl (fun m e cdv A outer s H E hr => der__law_plain_row (ih m e) cdv A outer s H E _ hr)
  c__law_is_order := cOk_all (d := FI__law_is_order) (c.l.d.defs (d := dd__law_is_order) (by simp [fnL])) sc__law_is_order rfl rfl tb__law_is_order (He.glo_ok I G (c.l.d.fact 18 (f := .glo ("_law_is_order" : Str)) rfl)) (fun fd Fd => Fd.bindsN fun _ _ _ _ _ _ us hl => match us, hl with | [_, _, _], _ => rfl) rfl (fun m e cdv A outer s H E hr => der__law_is_order (ih m e) cdv A outer s H E _ hr)
  c_shows_order := cOk_all (d := FI_shows_order) (c.l.d.defs (d := dd_shows_order) (by simp [fnL])) sc_shows_order rfl rfl tb_shows_order (He.glo_ok I G (c.l.d.fact 4 (f := .glo ("shows_order" : Str)) rfl)) (fun fd Fd => Fd.bindsN fun _ _ _ _ _ _ us hl => match us, hl with | [_, _, _], _ => rfl) rfl (fun m e cdv A outer s H E hr => der_shows_order (ih m e) cdv A outer s H E _ hr)
  c__law_is_round := cOk_all (d := FI__law_is_round) (c.l.d.defs (d := dd__law_is_round) (by simp [fnL])) sc__law_is_round rfl rfl tb__law_is_round (He.glo_ok I G (c.l.d.fact 19 (f := .glo ("_law_is_round" : Str)) rfl)) (fun fd Fd => Fd.bindsN fun _ _ _ _ _ _ us hl => match us, hl with | [_, _], _ => rfl) rfl (fun m e cdv A outer s H E hr => der__law_is_round (ih m e) cdv A outer s H E _ hr)
  c_shows_round := cOk_all (d := FI_shows_round) (c.l.d.defs (d := dd_shows_round) (by simp [fnL])) sc_shows_round rfl rfl tb_shows_round (He.glo_ok I G (c.l.d.fact 5 (f := .glo ("shows_round" : Str)) rfl)) (fun fd Fd => Fd.bindsN fun _ _ _ _ _ _ us hl => match us, hl with | [_, _, _], _ => rfl) rfl (fun m e cdv A outer s H E hr => der_shows_round (ih m e) cdv A outer s H E _ hr)
  b_max := (He.free_ok I G (c.l.d.fact 48 (f := .free ("max" : Str)) rfl))
  c__law_fate := cOk_all (d := FI__law_fate) (c.l.d.defs (d := dd__law_fate) (by simp [fnL])) sc__law_fate rfl rfl tb__law_fate (He.glo_ok I G (c.l.d.fact 27 (f := .glo ("_law_fate" : Str)) rfl)) (fun fd Fd => Fd.bindsN fun _ _ _ _ _ _ us hl => match us, hl with | [_, _, _, _], _ => rfl) rfl (fun m e cdv A outer s H E hr => der__law_fate (ih m e) cdv A outer s H E _ hr)
  c__law_reach_of := cOk_all (d := FI__law_reach_of) (c.l.d.defs (d := dd__law_reach_of) (by simp [fnL])) sc__law_reach_of rfl rfl tb__law_reach_of (He.glo_ok I G (c.l.d.fact 16 (f := .glo ("_law_reach_of" : Str)) rfl)) (fun fd Fd => Fd.bindsN fun _ _ _ _ _ _ us hl => match us, hl with | [_, _], _ => rfl) rfl (fun m e cdv A outer s H E hr => der__law_reach_of (ih m e) cdv A outer s H E _ hr)
  o_size := (fun A c' C hc hm => by
      simp only [List.mem_cons, List.not_mem_nil, or_false] at hc
      rcases hc with rfl
      · cases (He.glo_ok I G (c.l.d.fact 6 (f := .glo ("Graph" : Str)) rfl)).symm.trans hm; exact ⟨He.cls_ok (c.l.d.fact 40 (f := .cls ("Graph" : Str)) rfl), He.noat_ok (c.l.d.fact 43 (f := .noat ("Graph" : Str) ("size" : Str)) rfl)⟩)
  c_check_signs := cOk_all (d := FI_check_signs) (c.l.d.defs (d := dd_check_signs) (by simp [fnL])) sc_check_signs rfl rfl tb_check_signs (He.glo_ok I G (c.l.d.fact 0 (f := .glo ("check_signs" : Str)) rfl)) (fun fd Fd => Fd.bindsN fun _ _ _ _ _ _ us hl => match us, hl with | [_, _], _ => rfl) rfl (fun m e cdv A outer s H E hr => der_check_signs (ih m e) cdv A outer s H E _ hr)
  c_arrows_of := cOk_all (d := FI_arrows_of) (c.l.d.defs (d := dd_arrows_of) (by simp [fnL])) sc_arrows_of rfl rfl tb_arrows_of (He.glo_ok I G (c.l.d.fact 1 (f := .glo ("arrows_of" : Str)) rfl)) (fun fd Fd => Fd.bindsN fun _ _ _ _ _ _ us hl => match us, hl with | [_, _], _ => rfl) rfl (fun m e cdv A outer s H E hr => der_arrows_of (ih m e) cdv A outer s H E _ hr)
  o_nodes := (fun A c' C hc hm => by
      simp only [List.mem_cons, List.not_mem_nil, or_false] at hc
      rcases hc with rfl
      · cases (He.glo_ok I G (c.l.d.fact 6 (f := .glo ("Graph" : Str)) rfl)).symm.trans hm; exact ⟨He.cls_ok (c.l.d.fact 40 (f := .cls ("Graph" : Str)) rfl), He.noat_ok (c.l.d.fact 41 (f := .noat ("Graph" : Str) ("nodes" : Str)) rfl)⟩)
  c__round_within := cOk_all (d := FI__round_within) (c.l.d.defs (d := dd__round_within) (by simp [fnL])) sc__round_within rfl rfl tb__round_within (He.glo_ok I G (c.l.d.fact 2 (f := .glo ("_round_within" : Str)) rfl)) (fun fd Fd => Fd.bindsN fun _ _ _ _ _ _ us hl => match us, hl with | [_, _], _ => rfl) rfl (fun m e cdv A outer s H E hr => der__round_within (ih m e) cdv A outer s H E _ hr)
  b_bool := (He.free_ok I G (c.l.d.fact 49 (f := .free ("bool" : Str)) rfl))
  b_sorted := (He.free_ok I G (c.l.d.fact 50 (f := .free ("sorted" : Str)) rfl))
  b_enumerate := (He.free_ok I G (c.l.d.fact 51 (f := .free ("enumerate" : Str)) rfl))
  x_BadElement := (fun A hr => xk_BadElement c I G A hr)
  g_BadElement := (He.glo_ok I G (c.l.d.fact 52 (f := .glo ("BadElement" : Str)) rfl))
  b_set := (He.free_ok I G (c.l.d.fact 53 (f := .free ("set" : Str)) rfl))
  g_StrikejoinError := (He.glo_ok I G (c.l.d.fact 54 (f := .glo ("StrikejoinError" : Str)) rfl))
  s_StrikejoinError := (fun A => su_ok (l := [("BadEdge", true), ("BadElement", true), ("BadSigns", true), ("TooLarge", true)]) (fun p hp => glo1 c I G p.1 ((by decide +kernel : ∀ p ∈ ([("BadEdge", true), ("BadElement", true), ("BadSigns", true), ("TooLarge", true)] : List (Str × Bool)), p.1 ∈ (["BadEdge", "BadElement", "BadSigns", "TooLarge"] : List Str)) p hp)) (exc c).s_StrikejoinError)
  c__law_called := cOk_all (d := FI__law_called) (c.l.d.defs (d := dd__law_called) (by simp [fnL])) sc__law_called rfl rfl tb__law_called (He.glo_ok I G (c.l.d.fact 26 (f := .glo ("_law_called" : Str)) rfl)) (fun fd Fd => Fd.bindsN fun _ _ _ _ _ _ us hl => match us, hl with | [_, _, _, _], _ => rfl) rfl (fun m e cdv A outer s H E hr => der__law_called (ih m e) cdv A outer s H E _ hr)
  g_BadSigns := (He.glo_ok I G (c.l.d.fact 55 (f := .glo ("BadSigns" : Str)) rfl))
  i_BadSigns := (fun A => isE_ok (l := [("BadEdge", false), ("BadElement", false), ("BadSigns", true), ("TooLarge", false)]) (fun p hp => glo1 c I G p.1 ((by decide +kernel : ∀ p ∈ ([("BadEdge", false), ("BadElement", false), ("BadSigns", true), ("TooLarge", false)] : List (Str × Bool)), p.1 ∈ (["BadEdge", "BadElement", "BadSigns", "TooLarge"] : List Str)) p hp)) (exc c).i_BadSigns)
  i_BadElement := (fun A => isE_ok (l := [("BadEdge", false), ("BadElement", true), ("BadSigns", false), ("TooLarge", false)]) (fun p hp => glo1 c I G p.1 ((by decide +kernel : ∀ p ∈ ([("BadEdge", false), ("BadElement", true), ("BadSigns", false), ("TooLarge", false)] : List (Str × Bool)), p.1 ∈ (["BadEdge", "BadElement", "BadSigns", "TooLarge"] : List Str)) p hp)) (exc c).i_BadElement)
  i_ValueError := (fun A => isE_ok (l := [("BadEdge", true), ("BadElement", true), ("BadSigns", true), ("TooLarge", true)]) (fun p hp => glo1 c I G p.1 ((by decide +kernel : ∀ p ∈ ([("BadEdge", true), ("BadElement", true), ("BadSigns", true), ("TooLarge", true)] : List (Str × Bool)), p.1 ∈ (["BadEdge", "BadElement", "BadSigns", "TooLarge"] : List Str)) p hp)) (exc c).i_ValueError)
  b_ValueError := (He.free_ok I G (c.l.d.fact 56 (f := .free ("ValueError" : Str)) rfl))
  f_signs := (fun A => xfs_ok (fun x hx => glo1 c I G x ((by decide +kernel : ∀ x ∈ xs_signs, x ∈ (["BadEdge", "BadElement", "BadSigns", "TooLarge"] : List Str)) x hx)) (exc c).xf_signs)
  f_element := (fun A => xfs_ok (fun x hx => glo1 c I G x ((by decide +kernel : ∀ x ∈ xs_element, x ∈ (["BadEdge", "BadElement", "BadSigns", "TooLarge"] : List Str)) x hx)) (exc c).xf_element)
  x_BadSigns := (fun A hr => xk_BadSigns c I G A hr)
  k_SIGNS := (cst_ok I G (exc c).k_SIGNS)
  o_edges := (fun A c' C hc hm => by
      simp only [List.mem_cons, List.not_mem_nil, or_false] at hc
      rcases hc with rfl
      · cases (He.glo_ok I G (c.l.d.fact 6 (f := .glo ("Graph" : Str)) rfl)).symm.trans hm; exact ⟨He.cls_ok (c.l.d.fact 40 (f := .cls ("Graph" : Str)) rfl), He.noat_ok (c.l.d.fact 42 (f := .noat ("Graph" : Str) ("edges" : Str)) rfl)⟩)
  b_zip := (He.free_ok I G (c.l.d.fact 57 (f := .free ("zip" : Str)) rfl))
theorem all (c : Sx K) (I : K.In h) (G : h.Ns mainGlobals mg) : ∀ n, Fx PP w K mg base n
  | 0 => mk c I G 0 fun m e => absurd e (by simp)
  | n + 1 => mk c I G (n + 1) fun m e => by cases e; exact all c I G n
theorem facts (c : Sx K) (I : K.In h) (G : h.Ns mainGlobals mg) (k : Nat) : ∃ fd : FuncData, (∀ (s : Shared) (v : Value), BindsTo s fd ⟨[v], []⟩ [("script", v)]) ∧ ∀ base : Heap, K.In base → base.Ns mainGlobals mg → FnOk PP w K mg base (L2.CX PP w) (2 * (k + 1)) (He.ga K "law") fd ["script"] (spF ⟨K, mg, none⟩ (callF tb k "law") 1) := by
  obtain ⟨fd, Fd⟩ := c.l.d.defs (d := dd_law) (by simp [fnL])
  have b := FunD.bindsA (ps := ["script"]) Fd fun _ _ _ _ _ _ us hl => match us, hl with | [_], _ => rfl
  exact ⟨fd, fun s v => b s [v] rfl, fun base _ _ => fnOk_lv (ps := ["script"]) (d := FI_law) Fd sc_law rfl rfl tb_law k fun m e cdv A outer s H E hr => der_law (all c I G m) cdv A outer s H E _ hr⟩
end
abbrev R : PySem.W.OpenRow := PySem.W.OpenLaw.row PySem.Challenge.rw_strikejoin_k56_direction_papers
abbrev hk : PySem.W.Hook := hookM 5 faL fnL xiL exB
def ob (s : PySem.W.SharedT) : AlM := obsM 5 faL fnL xiL exB (HandSHeadRun.getT s)
theorem ob_eq (s : PySem.W.SharedT) : ob s = hk.obs s.abs := obsM_eq (HandSHeadRun.getT_eq s)
def loose : List Str := (["StrikejoinError", "BadText", "TooLarge", "BadElement", "BadEdge", "BadSigns", "SIGNS", "check_signs", "arrows_of", "_round_within", "order_paper", "shows_order"] : List Str) ++ ((["shows_round", "MOST_NODES", "MOST_EDGES", "DIGITS", "HEADS", "_parts_of", "_without_node", "Graph", "_law_cell", "_law_alike", "_law_edge", "_law_world"] : List Str) ++ ((["_law_drawn_signs", "_law_drawn_order", "_law_arrows_of", "_law_along", "_law_ring_of", "_law_reach_of", "_law_has_round", "_law_is_order", "_law_is_round", "_law_plain_row", "_law_paper", "_law_bent_orders"] : List Str) ++ ((["_law_bent_rounds", "_law_orders_judged", "_law_rounds_judged", "_law_called", "_law_fate", "_law_refused", "_law_nothing"] : List Str))))
theorem runB (b : Bool) (w : World) : HandSHeadRun.RunEq R (PySem.W.view R.prog [47]) hk ob 60000 loose (w.withFollow "special-get-raises" b) := by
  intro os
  cases b <;> kernel_rfl
theorem run (w : World) : HandSHeadRun.RunEq R (PySem.W.view R.prog [47]) hk ob 60000 loose w :=
  PySem.W.byRow2 "special-get-raises" (P := fun w => HandSHeadRun.RunEq R (PySem.W.view R.prog [47]) hk ob 60000 loose w) (runB false) (runB true) w
end W
end
section
/-! QA: arrows over 0 .. n-1: what is reached, orders, rounds. Plain Lean. -/
namespace QA
abbrev Ar := List (Nat × Nat)
/-- every end below n -/
def In (n : Nat) (A : Ar) : Prop := ∀ a ∈ A, a.1 < n ∧ a.2 < n
def bit (r : List Nat) (v w : Nat) : Bool := (r.getD v 0).testBit w
def step (r : List Nat) (a : Nat × Nat) : List Nat := r.set a.1 (r.getD a.1 0 ||| r.getD a.2 0)
def rnd (A : Ar) (r : List Nat) : List Nat := A.foldl step r
def rnds (A : Ar) : Nat → List Nat → List Nat
  | 0, r => r
  | k + 1, r => rnds A k (rnd A r)
def r0 (n : Nat) : List Nat := (List.range n).map fun k => 1 <<< k
def hasR (n : Nat) (A : Ar) : Bool := A.any fun a => bit (rnds A n (r0 n)) a.2 a.1
theorem step_len (r : List Nat) (a : Nat × Nat) : (step r a).length = r.length := by simp [step]
theorem rnd_len (A : Ar) : ∀ r : List Nat, (rnd A r).length = r.length := by
  unfold rnd
  induction A with
  | nil => intro r; rfl
  | cons a A ih => intro r; rw [List.foldl_cons, ih, step_len]
theorem rnds_len (A : Ar) : ∀ (k : Nat) (r : List Nat), (rnds A k r).length = r.length
  | 0, r => rfl
  | k + 1, r => by unfold rnds; rw [rnds_len A k, rnd_len]
theorem getD_set (r : List Nat) (i j x : Nat) : (r.set i x).getD j 0 = if i = j ∧ i < r.length then x else r.getD j 0 := by
  rw [List.getD_eq_getElem?_getD, List.getD_eq_getElem?_getD, List.getElem?_set]
  by_cases h : i = j
  · subst h
    by_cases hl : i < r.length
    · simp [hl]
    · simp [hl]
  · simp [h]
theorem bit_step (r : List Nat) (a : Nat × Nat) (v w : Nat) : bit (step r a) v w = if a.1 = v ∧ a.1 < r.length then (bit r a.1 w || bit r a.2 w) else bit r v w := by
  unfold bit step
  rw [getD_set]
  split
  · rw [Nat.testBit_or]
  · rfl
/-- by arrows from v to w -/
inductive Path (A : Ar) : Nat → Nat → Prop
  | refl (v : Nat) : Path A v v
  | step {v u w : Nat} : (v, u) ∈ A → Path A u w → Path A v w
def Sound (A : Ar) (r : List Nat) : Prop := ∀ v w, bit r v w = true → Path A v w
theorem sound_step {A : Ar} {r : List Nat} {a : Nat × Nat} (h : Sound A r) (ha : a ∈ A) : Sound A (step r a) := fun v w e => by
  rw [bit_step] at e
  split at e
  · rename_i hv
    rw [Bool.or_eq_true] at e
    rcases e with e | e
    · rw [← hv.1]; exact h _ _ e
    · rw [← hv.1]; exact .step (u := a.2) ha (h _ _ e)
  · exact h _ _ e
theorem sound_fold {A : Ar} : ∀ (B : Ar) (r : List Nat), (∀ a ∈ B, a ∈ A) → Sound A r → Sound A (B.foldl step r)
  | [], r, _, h => h
  | b :: B, r, hb, h => sound_fold B (step r b) (fun a ha => hb a (List.mem_cons_of_mem _ ha)) (sound_step h (hb b List.mem_cons_self))
theorem sound_rnds {A : Ar} : ∀ (k : Nat) (r : List Nat), Sound A r → Sound A (rnds A k r)
  | 0, r, h => h
  | k + 1, r, h => sound_rnds k _ (sound_fold A r (fun _ h => h) h)
theorem bit_r0 {n v w : Nat} : bit (r0 n) v w = true ↔ v < n ∧ v = w := by
  unfold bit r0
  rw [List.getD_eq_getElem?_getD, List.getElem?_map]
  by_cases h : v < n
  · rw [List.getElem?_range h]
    simp [h, Nat.shiftLeft_eq, Nat.testBit_two_pow]
  · rw [List.getElem?_eq_none (by simp; omega)]
    simp [h]
theorem sound_r0 (A : Ar) (n : Nat) : Sound A (r0 n) := fun v w h => by
  rw [(bit_r0.mp h).2]; exact .refl _
/-- never less -/
theorem mono_step {r : List Nat} {a : Nat × Nat} {v w : Nat} (h : bit r v w = true) : bit (step r a) v w = true := by
  rw [bit_step]
  split
  · rename_i hv; rw [hv.1, h]; rfl
  · exact h
theorem mono_fold : ∀ (B : Ar) {r : List Nat} {v w : Nat}, bit r v w = true → bit (B.foldl step r) v w = true
  | [], _, _, _, h => h
  | b :: B, _, _, _, h => mono_fold B (mono_step h)
theorem mono_rnds (A : Ar) : ∀ (k : Nat) {r : List Nat} {v w : Nat}, bit r v w = true → bit (rnds A k r) v w = true
  | 0, _, _, _, h => h
  | k + 1, _, _, _, h => mono_rnds A k (mono_fold A h)
theorem rnds_add (A : Ar) : ∀ (j k : Nat) (r : List Nat), rnds A (j + k) r = rnds A k (rnds A j r)
  | 0, k, r => by rw [Nat.zero_add]; rfl
  | j + 1, k, r => by rw [show j + 1 + k = (j + k) + 1 by omega]; show rnds A (j + k) (rnd A r) = rnds A k (rnds A j (rnd A r)); rw [rnds_add A j k]
theorem far_fold : ∀ (B : Ar) {r : List Nat} {v u w : Nat}, (v, u) ∈ B → v < r.length → bit r u w = true → bit (B.foldl step r) v w = true
  | [], _, _, _, _, h, _, _ => by cases h
  | b :: B, r, v, u, w, h, hv, hb => by
    rw [List.foldl_cons]
    rcases List.mem_cons.mp h with e | h
    · subst e
      refine mono_fold B ?_
      rw [bit_step, if_pos ⟨rfl, hv⟩, hb, Bool.or_true]
    · exact far_fold B h (by rw [step_len]; exact hv) (mono_step hb)
theorem far_rnd {A : Ar} {n k v u w : Nat} (h : (v, u) ∈ A) (hv : v < n) (hb : bit (rnds A k (r0 n)) u w = true) : bit (rnds A (k + 1) (r0 n)) v w = true := by
  rw [rnds_add A k 1]
  show bit (rnd A _) v w = true
  refine far_fold A h ?_ hb
  rw [rnds_len]
  simpa [r0] using hv
/-! ### orders -/
/-- each tail before its head -/
def Bef (A : Ar) (O : List Nat) : Prop := ∀ a ∈ A, O.idxOf a.1 < O.idxOf a.2
theorem path_bef {A : Ar} {O : List Nat} (h : Bef A O) {v w : Nat} (p : Path A v w) : O.idxOf v ≤ O.idxOf w := by
  induction p with
  | refl v => exact Nat.le_refl _
  | step ha _ ih => exact Nat.le_trans (Nat.le_of_lt (h _ ha)) ih
theorem bef_hasR {A : Ar} {O : List Nat} (n : Nat) (h : Bef A O) : hasR n A = false := by
  unfold hasR
  rw [Bool.eq_false_iff]
  intro e
  obtain ⟨a, ha, hb⟩ := List.any_eq_true.mp e
  have p := sound_rnds n _ (sound_r0 A n) _ _ hb
  have h1 := path_bef h p
  have h2 := h a ha
  omega
/-! ### rounds: t the tails in a row -/
structure Rnd (n : Nat) (A : Ar) (t : List Nat) : Prop where
  ne : t ≠ []
  nd : t.Nodup
  lt : ∀ v ∈ t, v < n
  nx : ∀ k, k < t.length → (t.getD k 0, t.getD ((k + 1) % t.length) 0) ∈ A
theorem nodup_le : ∀ (n : Nat) (t : List Nat), t.Nodup → (∀ v ∈ t, v < n) → t.length ≤ n
  | 0, t, _, h => by
    cases t with
    | nil => exact Nat.le_refl _
    | cons a t => exact absurd (h a List.mem_cons_self) (Nat.not_lt_zero _)
  | n + 1, t, nd, h => by
    by_cases hn : n ∈ t
    · have h1 := nodup_le n (t.erase n) (nd.erase n) fun v hv => by
        have := h v (List.mem_of_mem_erase hv)
        have hne : v ≠ n := fun e => by
          subst e
          exact (List.Nodup.mem_erase_iff nd).mp hv |>.1 rfl
        omega
      rw [List.length_erase_of_mem hn] at h1
      omega
    · have := nodup_le n t nd fun v hv => by
        have := h v hv
        have : v ≠ n := fun e => hn (e ▸ hv)
        omega
      omega
theorem rnd_bits {n : Nat} {A : Ar} {t : List Nat} (h : Rnd n A t) : ∀ i, i < t.length → bit (rnds A i (r0 n)) (t.getD ((t.length - i) % t.length) 0) (t.getD 0 0) = true
  | 0, hi => by
    rw [Nat.sub_zero, Nat.mod_self]
    have h0 : t.getD 0 0 < n := by
      rw [List.getD_eq_getElem?_getD, List.getElem?_eq_getElem hi]
      exact h.lt _ (List.getElem_mem hi)
    exact bit_r0.mpr ⟨h0, rfl⟩
  | i + 1, hi => by
    have ih := rnd_bits h i (by omega)
    have e1 : (t.length - (i + 1)) % t.length = t.length - (i + 1) := Nat.mod_eq_of_lt (by omega)
    have nx := h.nx (t.length - (i + 1)) (by omega)
    rw [show t.length - (i + 1) + 1 = t.length - i by omega] at nx
    rw [e1]
    refine far_rnd nx ?_ ih
    have hl : t.length - (i + 1) < t.length := by omega
    rw [List.getD_eq_getElem?_getD, List.getElem?_eq_getElem hl]
    exact h.lt _ (List.getElem_mem hl)
theorem rnd_hasR {n : Nat} {A : Ar} {t : List Nat} (h : Rnd n A t) : hasR n A = true := by
  have hpos : 0 < t.length := List.length_pos_iff.mpr h.ne
  have hle := nodup_le n t h.nd h.lt
  have hb := rnd_bits h (t.length - 1) (by omega)
  rw [show t.length - (t.length - 1) = 1 by omega] at hb
  have nx := h.nx 0 hpos
  rw [Nat.zero_add] at nx
  have hb2 : bit (rnds A n (r0 n)) (t.getD (1 % t.length) 0) (t.getD 0 0) = true := by
    have e : rnds A n (r0 n) = rnds A (n - (t.length - 1)) (rnds A (t.length - 1) (r0 n)) := by
      rw [← rnds_add, show t.length - 1 + (n - (t.length - 1)) = n by omega]
    rw [e]
    exact mono_rnds A _ hb
  exact List.any_eq_true.mpr ⟨_, nx, hb2⟩
end QA
end
section
/-! QB: layers, walks back. Plain Lean. -/
namespace QA
def heads (A : Ar) (L : List Nat) : List Nat := (A.filter fun a => decide (a.1 ∈ L)).map (·.2)
def ready (A : Ar) (L : List Nat) : List Nat := L.filter fun v => !decide (v ∈ heads A L)
def rest (A : Ar) (L : List Nat) : List Nat := L.filter fun v => decide (v ∈ heads A L)
structure Lay (n : Nat) (A : Ar) (O L : List Nat) : Prop where
  pm : (O ++ L).Perm (List.range n)
  bf : ∀ a ∈ A, a.2 ∈ O → a.1 ∈ O ∧ O.idxOf a.1 < O.idxOf a.2
theorem mem_heads {A : Ar} {L : List Nat} {v : Nat} : v ∈ heads A L ↔ ∃ a ∈ A, a.1 ∈ L ∧ a.2 = v := by
  unfold heads
  simp only [List.mem_map, List.mem_filter, decide_eq_true_eq]
  constructor
  · rintro ⟨a, ⟨h1, h2⟩, h3⟩; exact ⟨a, h1, h2, h3⟩
  · rintro ⟨a, h1, h2, h3⟩; exact ⟨a, ⟨h1, h2⟩, h3⟩
theorem Lay.start (n : Nat) (A : Ar) : Lay n A [] (List.range n) := ⟨by simp, fun _ _ h => by cases h⟩
theorem Lay.nd {n : Nat} {A : Ar} {O L : List Nat} (h : Lay n A O L) : (O ++ L).Nodup := h.pm.nodup_iff.mpr List.nodup_range
theorem Lay.next {n : Nat} {A : Ar} {O L : List Nat} (hA : In n A) (h : Lay n A O L) : Lay n A (O ++ ready A L) (rest A L) := by
  have nd := h.nd
  refine ⟨?_, fun a ha h2 => ?_⟩
  · refine List.Perm.trans ?_ h.pm
    rw [List.append_assoc]
    refine List.Perm.append_left O ?_
    unfold ready rest
    have e := List.filter_append_perm (fun v => decide (v ∈ heads A L)) L
    exact List.perm_append_comm.trans e
  · by_cases hO : a.2 ∈ O
    · obtain ⟨h3, h4⟩ := h.bf a ha hO
      exact ⟨List.mem_append_left _ h3, by rw [List.idxOf_append, if_pos h3, List.idxOf_append, if_pos hO]; exact h4⟩
    · have hr : a.2 ∈ ready A L := (List.mem_append.mp h2).resolve_left hO
      unfold ready at hr
      obtain ⟨hL, hh⟩ := List.mem_filter.mp hr
      have h1 : a.1 ∉ L := fun h1 => by
        have : a.2 ∈ heads A L := mem_heads.mpr ⟨a, ha, h1, rfl⟩
        simp [this] at hh
      have h3 : a.1 ∈ O := by
        have := h.pm.mem_iff.mpr (List.mem_range.mpr (hA a ha).1)
        exact (List.mem_append.mp this).resolve_right h1
      refine ⟨List.mem_append_left _ h3, ?_⟩
      rw [List.idxOf_append, if_pos h3, List.idxOf_append, if_neg hO]
      have := List.idxOf_lt_length_of_mem h3
      omega
theorem Lay.done {n : Nat} {A : Ar} {O : List Nat} (hA : In n A) (h : Lay n A O []) : O.Perm (List.range n) ∧ Bef A O := by
  have pm := h.pm
  rw [List.append_nil] at pm
  exact ⟨pm, fun a ha => (h.bf a ha (pm.mem_iff.mpr (List.mem_range.mpr (hA a ha).2))).2⟩
theorem rest_lt {A : Ar} {L : List Nat} (h : ready A L ≠ []) : (rest A L).length < L.length := by
  unfold ready at h
  unfold rest
  have e := (List.filter_append_perm (fun v => decide (v ∈ heads A L)) L).length_eq
  rw [List.length_append] at e
  have := List.length_pos_iff.mpr h
  omega
theorem all_heads {A : Ar} {L : List Nat} (h : ready A L = []) : ∀ v ∈ L, v ∈ heads A L := fun v hv => by
  unfold ready at h
  have := List.filter_eq_nil_iff.mp h v hv
  simpa using this
/-! ### walking back -/
def idxs (A : Ar) (L : List Nat) (v : Nat) : List Nat := (List.range A.length).filter fun i => decide ((A.getD i (0, 0)).2 = v) && decide ((A.getD i (0, 0)).1 ∈ L)
theorem idxs_ok {A : Ar} {L : List Nat} {v : Nat} (h : v ∈ heads A L) : ∃ e u, (idxs A L v)[0]? = some e ∧ A[e]? = some (u, v) ∧ u ∈ L := by
  obtain ⟨a, ha, h1, h2⟩ := mem_heads.mp h
  obtain ⟨i, hi, e⟩ := List.mem_iff_getElem.mp ha
  have hm : i ∈ idxs A L v := by
    unfold idxs
    refine List.mem_filter.mpr ⟨List.mem_range.mpr hi, ?_⟩
    rw [List.getD_eq_getElem?_getD, List.getElem?_eq_getElem hi, Option.getD_some, e]
    simp [h1, h2]
  cases hx : idxs A L v with
  | nil => rw [hx] at hm; cases hm
  | cons e r =>
    have he : e ∈ idxs A L v := by rw [hx]; exact List.mem_cons_self
    unfold idxs at he
    obtain ⟨h3, h4⟩ := List.mem_filter.mp he
    have h3 := List.mem_range.mp h3
    rw [List.getD_eq_getElem?_getD, List.getElem?_eq_getElem h3, Option.getD_some] at h4
    simp only [Bool.and_eq_true, decide_eq_true_eq] at h4
    exact ⟨e, A[e].1, by simp, by rw [List.getElem?_eq_getElem h3, ← h4.1], h4.2⟩
/-- the state of the walk: passed, edges, node -/
structure Walk (A : Ar) (L P E : List Nat) (v : Nat) : Prop where
  vL : v ∈ L
  nd : P.Nodup
  sub : ∀ p ∈ P, p ∈ L
  len : E.length = P.length
  at_ : ∀ i, i < P.length → ∃ e, E[i]? = some e ∧ A[e]? = some (if i + 1 < P.length then P.getD (i + 1) 0 else v, P.getD i 0)
theorem Walk.start {A : Ar} {L : List Nat} {v : Nat} (h : v ∈ L) : Walk A L [] [] v := ⟨h, List.nodup_nil, by simp, rfl, fun i h => absurd h (Nat.not_lt_zero i)⟩
theorem Walk.next {A : Ar} {L P E : List Nat} {v e u : Nat} (h : Walk A L P E v) (hv : v ∉ P) (he : A[e]? = some (u, v)) (hu : u ∈ L) : Walk A L (P ++ [v]) (E ++ [e]) u := by
  refine ⟨hu, ?_, fun p hp => ?_, by simp [h.len], fun i hi => ?_⟩
  · rw [List.nodup_append]
    refine ⟨h.nd, by simp, fun a ha b hb => ?_⟩
    simp at hb
    subst hb
    exact fun e => hv (e ▸ ha)
  · rcases List.mem_append.mp hp with hp | hp
    · exact h.sub p hp
    · simp at hp; rw [hp]; exact h.vL
  · simp only [List.length_append, List.length_cons, List.length_nil] at hi ⊢
    by_cases hl : i < P.length
    · obtain ⟨e', h1, h2⟩ := h.at_ i hl
      refine ⟨e', by rw [List.getElem?_append_left (by rw [h.len]; exact hl)]; exact h1, ?_⟩
      have g1 : (P ++ [v]).getD i 0 = P.getD i 0 := by
        rw [List.getD_eq_getElem?_getD, List.getD_eq_getElem?_getD, List.getElem?_append_left hl]
      have g2 : (if i + 1 < P.length + (0 + 1) then (P ++ [v]).getD (i + 1) 0 else u) = (if i + 1 < P.length then P.getD (i + 1) 0 else v) := by
        rw [if_pos (by omega)]
        by_cases h3 : i + 1 < P.length
        · rw [if_pos h3, List.getD_eq_getElem?_getD, List.getD_eq_getElem?_getD, List.getElem?_append_left h3]
        · rw [if_neg h3, List.getD_eq_getElem?_getD, List.getElem?_append_right (by omega), show i + 1 - P.length = 0 by omega]
          rfl
      rw [h2, g1, g2]
    · have : i = P.length := by omega
      subst this
      refine ⟨e, by rw [List.getElem?_append_right (by rw [h.len]; exact Nat.le_refl _), h.len, Nat.sub_self]; rfl, ?_⟩
      rw [he, if_neg (by omega)]
      congr 2
      rw [List.getD_eq_getElem?_getD, List.getElem?_append_right (Nat.le_refl _), Nat.sub_self]
      rfl
/-- the tails and heads of a row of edges -/
def tl (A : Ar) (R : List Nat) : List Nat := R.map fun e => (A.getD e (0, 0)).1
def hd (A : Ar) (R : List Nat) : List Nat := R.map fun e => (A.getD e (0, 0)).2
/-- a row of edges goes round -/
structure Rd (A : Ar) (R : List Nat) : Prop where
  ne : R ≠ []
  inA : ∀ e ∈ R, e < A.length
  nx : hd A R = (tl A R).drop 1 ++ (tl A R).take 1
  nd : (tl A R).Nodup
theorem Walk.done {A : Ar} {L P E : List Nat} {v : Nat} (h : Walk A L P E v) (hv : v ∈ P) : Rd A (E.drop (P.idxOf v)).reverse := by
  have hj := List.idxOf_lt_length_of_mem hv
  have hPj : P[P.idxOf v]? = some v := by rw [List.getElem?_eq_getElem hj, List.getElem_idxOf hj]
  generalize P.idxOf v = j at hj hPj
  have hA : ∀ i e, E[i]? = some e → e < A.length ∧ (A.getD e (0, 0)) = (if i + 1 < P.length then P.getD (i + 1) 0 else v, P.getD i 0) := fun i e he => by
    have hi : i < P.length := by
      rw [← h.len]
      rcases Nat.lt_or_ge i E.length with w | w
      · exact w
      · rw [List.getElem?_eq_none w] at he; cases he
    obtain ⟨e', h1, h2⟩ := h.at_ i hi
    rw [he] at h1
    cases h1
    refine ⟨?_, by rw [List.getD_eq_getElem?_getD, h2]; rfl⟩
    rcases Nat.lt_or_ge e A.length with w | w
    · exact w
    · rw [List.getElem?_eq_none w] at h2; cases h2
  have hhd : hd A (E.drop j) = P.drop j := by
    apply List.ext_getElem?
    intro k
    unfold hd
    rw [List.getElem?_map, List.getElem?_drop, List.getElem?_drop]
    cases he : E[j + k]? with
    | none =>
      have : E.length ≤ j + k := List.getElem?_eq_none_iff.mp he
      rw [List.getElem?_eq_none (by rw [← h.len]; exact this)]
      rfl
    | some e =>
      have hl : j + k < P.length := by
        rw [← h.len]
        rcases Nat.lt_or_ge (j + k) E.length with w | w
        · exact w
        · rw [List.getElem?_eq_none w] at he; cases he
      rw [Option.map_some, (hA _ _ he).2]
      simp [List.getElem?_eq_getElem hl]
  have htl : tl A (E.drop j) = P.drop (j + 1) ++ [v] := by
    apply List.ext_getElem?
    intro k
    unfold tl
    rw [List.getElem?_map, List.getElem?_drop]
    cases he : E[j + k]? with
    | none =>
      have : E.length ≤ j + k := List.getElem?_eq_none_iff.mp he
      rw [List.getElem?_eq_none (by have := h.len; rw [List.length_append, List.length_drop]; simp; omega)]
      rfl
    | some e =>
      have hl : j + k < P.length := by
        rw [← h.len]
        rcases Nat.lt_or_ge (j + k) E.length with w | w
        · exact w
        · rw [List.getElem?_eq_none w] at he; cases he
      rw [Option.map_some, (hA _ _ he).2]
      by_cases h3 : j + k + 1 < P.length
      · rw [List.getElem?_append_left (by rw [List.length_drop]; omega), List.getElem?_drop, if_pos h3]
        rw [show j + 1 + k = j + k + 1 by omega]
        simp [List.getElem?_eq_getElem h3]
      · rw [List.getElem?_append_right (by rw [List.length_drop]; omega), List.length_drop, if_neg h3, show k - (P.length - (j + 1)) = 0 by omega]
        rfl
  have hcons : P.drop j = v :: P.drop (j + 1) := by
    rw [List.drop_eq_getElem_cons hj]
    rw [List.getElem?_eq_getElem hj] at hPj
    rw [Option.some.inj hPj]
  have ht : tl A (E.drop j).reverse = v :: (P.drop (j + 1)).reverse := by
    have : tl A (E.drop j).reverse = (tl A (E.drop j)).reverse := by unfold tl; rw [List.map_reverse]
    rw [this, htl, List.reverse_append]
    rfl
  have hh : hd A (E.drop j).reverse = (P.drop (j + 1)).reverse ++ [v] := by
    have : hd A (E.drop j).reverse = (hd A (E.drop j)).reverse := by unfold hd; rw [List.map_reverse]
    rw [this, hhd, hcons, List.reverse_cons]
  refine ⟨fun e => ?_, fun e he => ?_, ?_, ?_⟩
  · have := congrArg List.length e
    rw [List.length_reverse, List.length_drop, h.len] at this
    simp at this
    omega
  · obtain ⟨i, hi, e2⟩ := List.mem_iff_getElem.mp (List.mem_of_mem_drop (List.mem_reverse.mp he))
    exact (hA i e (by rw [List.getElem?_eq_getElem hi, e2])).1
  · rw [hh, ht]
    rfl
  · rw [ht]
    have : (P.drop j).Nodup := h.nd.sublist (List.drop_sublist _ _)
    rw [hcons] at this
    rw [List.nodup_cons] at this ⊢
    exact ⟨fun h => this.1 (List.mem_reverse.mp h), (List.reverse_perm _).nodup_iff.mpr this.2⟩
/-- such a row is a round of nodes -/
theorem Rd.rnd {n : Nat} {A : Ar} {R : List Nat} (hA : In n A) (h : Rd A R) : Rnd n A (tl A R) := by
  have hl : (tl A R).length = R.length := by simp [tl]
  have hpos := List.length_pos_iff.mpr h.ne
  refine ⟨fun e => ?_, h.nd, fun v hv => ?_, fun k hk => ?_⟩
  · rw [e] at hl; simp at hl; omega
  · obtain ⟨e, he, rfl⟩ := List.mem_map.mp hv
    have := h.inA e he
    rw [List.getD_eq_getElem?_getD, List.getElem?_eq_getElem this]
    exact (hA _ (List.getElem_mem this)).1
  · have hk' : k < R.length := by omega
    have he := h.inA _ (List.getElem_mem hk')
    have e1 : (tl A R).getD k 0 = (A.getD R[k] (0, 0)).1 := by
      unfold tl
      rw [List.getD_eq_getElem?_getD, List.getElem?_map, List.getElem?_eq_getElem hk'] <;> rfl
    have e2 : (hd A R).getD k 0 = (A.getD R[k] (0, 0)).2 := by
      unfold hd
      rw [List.getD_eq_getElem?_getD, List.getElem?_map, List.getElem?_eq_getElem hk'] <;> rfl
    have e3 : (hd A R).getD k 0 = (tl A R).getD ((k + 1) % (tl A R).length) 0 := by
      rw [h.nx, List.getD_eq_getElem?_getD, List.getD_eq_getElem?_getD]
      by_cases h4 : k + 1 < (tl A R).length
      · rw [List.getElem?_append_left (by rw [List.length_drop]; omega), List.getElem?_drop, Nat.mod_eq_of_lt h4, show 1 + k = k + 1 by omega]
      · have : k + 1 = (tl A R).length := by omega
        rw [List.getElem?_append_right (by rw [List.length_drop]; omega), List.length_drop, this, Nat.mod_self, show k - ((tl A R).length - 1) = 0 by omega, List.getElem?_take, if_pos (by omega)]
    rw [← e3, e1, e2]
    have : A.getD R[k] (0, 0) = A[R[k]] := by rw [List.getD_eq_getElem?_getD, List.getElem?_eq_getElem he] <;> rfl
    rw [this]
    exact List.getElem_mem he
end QA
end
section
/-! QC: rounds, looked at edge by edge. Plain Lean. -/
namespace QA
def rdB (A : Ar) (R : List Nat) : Bool := !R.isEmpty && (decide (hd A R = (tl A R).drop 1 ++ (tl A R).take 1) && decide (tl A R).Nodup)
def rdQ (A : Ar) (R : List Nat) (i : Nat) : Bool := decide ((hd A R).getD i 0 = (tl A R).getD ((i + 1) % R.length) 0) && !decide ((tl A R).getD i 0 ∈ (tl A R).take i)
theorem tl_len (A : Ar) (R : List Nat) : (tl A R).length = R.length := by simp [tl]
theorem hd_len (A : Ar) (R : List Nat) : (hd A R).length = R.length := by simp [hd]
theorem nodup_take : ∀ (l : List Nat), l.Nodup ↔ ∀ i, i < l.length → l.getD i 0 ∉ l.take i := by
  intro l
  constructor
  · intro nd i hi hm
    obtain ⟨j, hj, e⟩ := List.mem_iff_getElem.mp hm
    rw [List.length_take] at hj
    rw [List.getElem_take] at e
    have e2 : l.getD i 0 = l[i] := by rw [List.getD_eq_getElem?_getD, List.getElem?_eq_getElem hi] <;> rfl
    rw [e2] at e
    exact absurd e (List.pairwise_iff_getElem.mp nd j i (by omega) hi (by omega))
  · intro h
    rw [List.Nodup, List.pairwise_iff_getElem]
    intro i j hi hj hij e
    refine h j hj ?_
    have e2 : l.getD j 0 = l[j] := by rw [List.getD_eq_getElem?_getD, List.getElem?_eq_getElem hj] <;> rfl
    rw [e2, ← e]
    refine List.mem_iff_getElem.mpr ⟨i, by rw [List.length_take]; omega, ?_⟩
    rw [List.getElem_take]
theorem rot_at (l : List Nat) (i : Nat) (hi : i < l.length) : (l.drop 1 ++ l.take 1).getD i 0 = l.getD ((i + 1) % l.length) 0 := by
  rw [List.getD_eq_getElem?_getD, List.getD_eq_getElem?_getD]
  by_cases h4 : i + 1 < l.length
  · rw [List.getElem?_append_left (by rw [List.length_drop]; omega), List.getElem?_drop, Nat.mod_eq_of_lt h4, show 1 + i = i + 1 by omega]
  · have : i + 1 = l.length := by omega
    rw [List.getElem?_append_right (by rw [List.length_drop]; omega), List.length_drop, this, Nat.mod_self, show i - (l.length - 1) = 0 by omega, List.getElem?_take, if_pos (by omega)]
theorem eq_getD {l m : List Nat} (h : l.length = m.length) : l = m ↔ ∀ i, i < l.length → l.getD i 0 = m.getD i 0 := by
  constructor
  · intro e i _; rw [e]
  · intro e
    apply List.ext_getElem h
    intro i h1 h2
    have := e i h1
    rw [List.getD_eq_getElem?_getD, List.getD_eq_getElem?_getD, List.getElem?_eq_getElem h1, List.getElem?_eq_getElem h2] at this
    exact this
theorem rdq_all (A : Ar) {R : List Nat} : (∀ i, i < R.length → rdQ A R i = true) ↔ (hd A R = (tl A R).drop 1 ++ (tl A R).take 1 ∧ (tl A R).Nodup) := by
  have hl : (hd A R).length = ((tl A R).drop 1 ++ (tl A R).take 1).length := by
    rw [List.length_append, List.length_drop, List.length_take, tl_len, hd_len]
    omega
  rw [eq_getD hl, nodup_take, tl_len, hd_len]
  unfold rdQ
  simp only [Bool.and_eq_true, decide_eq_true_eq, Bool.not_eq_true', decide_eq_false_iff_not]
  constructor
  · intro h
    exact ⟨fun i hi => by rw [rot_at _ _ (by rw [tl_len]; exact hi), tl_len]; exact (h i hi).1, fun i hi => (h i hi).2⟩
  · rintro ⟨h1, h2⟩ i hi
    have := h1 i hi
    rw [rot_at _ _ (by rw [tl_len]; exact hi), tl_len] at this
    exact ⟨this, h2 i hi⟩
theorem rdB_of {A : Ar} {R : List Nat} (h : Rd A R) : rdB A R = true := by
  unfold rdB
  have hne : R.isEmpty = false := by cases hR : R with
    | nil => exact absurd hR h.ne
    | cons _ _ => rfl
  rw [hne, decide_eq_true h.nx, decide_eq_true h.nd]
  rfl
end QA
end
section
set_option maxRecDepth 100000
/-! F1: k56, cells, edges, the world. -/
namespace W
open PySem L2 PyProof.Rows CI
abbrev zD (ns : List Int) : List D := ns.map D.int
def nZ (l : List Nat) : List Int := l.map fun (k : Nat) => (k : Int)
def nD (l : List Nat) : List D := l.map fun (k : Nat) => D.int (k : Int)
theorem nD_z (l : List Nat) : nD l = (nZ l).map D.int := by simp [nD, nZ]
def eD (p : Nat × Nat) : D := .tup [.int p.1, .int p.2]
theorem rg_nD (n : Nat) : rgD 0 n = nD (List.range n) := by simp [rgD, nD]
def cellN (ns : List Int) (k : Nat) : Nat := (ns.getD k 0).natAbs
theorem ev_cell (n : Nat) (ns : List Int) (k : Nat) : callF tb (n + 1) "_law_cell" [.val (.lst (zD ns)), .val (.int k)] = .ok (.val (.int (cellN ns k))) := by
  rw [callF_fn tb__law_cell]
  by_cases h : k < ns.length
  · simp [FI__law_cell, B__law_cell, runFn, h, cellN]
    split <;> omega
  · simp [FI__law_cell, B__law_cell, runFn, h, cellN]
theorem ev_cellZ (n : Nat) (ns : List Int) {z : Int} {k : Nat} (h : z = k) : callF tb (n + 1) "_law_cell" [.val (.lst (zD ns)), .val (.int z)] = .ok (.val (.int (cellN ns k))) := by
  subst h; exact ev_cell n ns k
theorem fmodN (a b : Nat) : Int.fmod (a : Int) (b : Int) = ((a % b : Nat) : Int) := by
  rw [Int.fmod_eq_emod_of_nonneg _ (by omega)]; push_cast; rfl
theorem fdivN (a b : Nat) : Int.fdiv (a : Int) (b : Int) = ((a / b : Nat) : Int) := by
  rw [Int.fdiv_eq_ediv_of_nonneg _ (by omega)]; push_cast; rfl
def edgeF (c k n : Nat) : Nat × Nat := ((c + k) % n, (c / n + k + 1 + k / n) % n)
theorem divOk_nat {n : Nat} (h1 : 1 ≤ n) (h2 : n ≤ 10000) : divOk (n : Int) = true := by unfold divOk; simp; left; omega
theorem ev_edge (m c k n : Nat) (h1 : 1 ≤ n) (h2 : n ≤ 10) : callF tb (m + 1) "_law_edge" [.val (.int c), .val (.int k), .val (.int n)] = .ok (.val (eD (edgeF c k n))) := by
  have e1 : ((c : Int) + k).fmod n = (((c + k) % n : Nat) : Int) := fmodN (c + k) n
  have e2 : ((c : Int)).fdiv n = ((c / n : Nat) : Int) := fdivN c n
  have e3 : ((k : Int)).fdiv n = ((k / n : Nat) : Int) := fdivN k n
  have e4 : (((c / n : Nat) : Int) + k + 1 + ((k / n : Nat) : Int)).fmod n = (((c / n + k + 1 + k / n) % n : Nat) : Int) := fmodN (c / n + k + 1 + k / n) n
  have hd := divOk_nat h1 (by omega)
  have hn : ¬ n = 0 := by omega
  have hs : sizeLine = 16777216 := sizeLine_eq
  have hz : sz 2 = true := sz_ok (by omega)
  rw [call_fn tb__law_edge rfl]
  simp only [eD, edgeF]
  rw [← e4, ← e2, ← e3, ← e1]
  simp [FI__law_edge, B__law_edge, hd, hn, hz]
structure Wd where
  n : Nat
  E : List (Nat × Nat)
def worldN (ns : List Int) : Nat := if cellN ns 0 % 8 = 7 then 6 + cellN ns 1 % 5 else 1 + (cellN ns 1 + 2) % 5
def worldS (ns : List Int) : Nat := if cellN ns 0 % 8 = 7 then 9 + cellN ns 3 % 2 else (cellN ns 3 + 4) % 7
def worldE (ns : List Int) : List (Nat × Nat) := (List.range (worldS ns)).map fun k => edgeF (cellN ns (4 + k)) k (worldN ns)
theorem worldN_bd (ns : List Int) : 1 ≤ worldN ns ∧ worldN ns ≤ 10 := by unfold worldN; split <;> omega
theorem worldS_bd (ns : List Int) : worldS ns ≤ 10 := by unfold worldS; split <;> omega
theorem rg1_nat {k : Nat} (h : k < 2 ^ 62) : rg1 (.int (k : Int)) = some (rgD 0 k) := by
  have : inRg (k : Int) = true := by unfold inRg; simp; omega
  show (if inRg (k : Int) then some (rgD 0 (k : Int).toNat) else none) = _
  rw [if_pos this]
  simp
theorem ev_world (m : Nat) (ns : List Int) : callF tb (m + 2) "_law_world" [.val (.lst (zD ns))] = .ok (.val (.tup [.int (worldN ns), .lst ((worldE ns).map eD)])) := by
  have hs : sizeLine = 16777216 := sizeLine_eq
  have hz : sz 2 = true := sz_ok (by omega)
  obtain ⟨b1, b2⟩ := worldN_bd ns
  have b3 := worldS_bd ns
  have c0 := ev_cellZ m ns (z := 0) (k := 0) rfl
  have c1 := ev_cellZ m ns (z := 1) (k := 1) rfl
  have c3 := ev_cellZ m ns (z := 3) (k := 3) rfl
  have dd : ∀ k : Nat, 1 ≤ k → k ≤ 10 → divOk ((k : Nat) : Int) = true := fun k h1 h2 => divOk_nat h1 (by omega)
  have rg := rg1_nat (k := worldS ns) (by omega)
  have lc := ev_lcN (i := 4) (it := ciRg1 (cVar 2)) (elt := (cCall (callF tb (m + 1)) ("_law_edge" : Str) (cCons (cA (cCall (callF tb (m + 1)) ("_law_cell" : Str) (cCons (cA (cVar 0)) (cCons (cA (cBin oAdd (cCst (.int 4)) (cVar 4))) cNil)))) (cCons (cA (cVar 4)) (cCons (cA (cVar 1)) cNil))))) (xs := List.range (worldS ns)) (s := .emp)
    (ρ := [.val (.lst (zD ns)), .val (.int (worldN ns)), .val (.int (worldS ns)), .emp, .emp]) (ρ1 := [.val (.lst (zD ns)), .val (.int (worldN ns)), .val (.int (worldS ns)), .emp, .emp])
    (fun (k : Nat) => D.int (k : Int)) (fun k => eD (edgeF (cellN ns (4 + k)) k (worldN ns))) (by simp [rg, rg_nD, nD]) rfl rfl (by simp; omega) fun k hk => by
      have c := ev_cell m ns (4 + k)
      have c' : callF tb (m + 1) "_law_cell" [.val (.lst (zD ns)), .val (.int (4 + (k : Int)))] = .ok (.val (.int (cellN ns (4 + k)))) := by
        rw [← c]; congr 4
      have e := ev_edge m (cellN ns (4 + k)) k (worldN ns) b1 b2
      simp [c', e]
  have e1 : (List.range (worldS ns)).map (fun k => eD (edgeF (cellN ns (4 + k)) k (worldN ns))) = (worldE ns).map eD := by simp [worldE]
  rw [e1] at lc
  have k1 : ((cellN ns 1 : Int) + 2).fmod 5 = ((cellN ns 1 : Int) + 2) % 5 := Int.fmod_eq_emod_of_nonneg _ (by omega)
  have k2 : ((cellN ns 3 : Int) + 4).fmod 7 = ((cellN ns 3 : Int) + 4) % 7 := Int.fmod_eq_emod_of_nonneg _ (by omega)
  have k3 : ((cellN ns 0 : Int)).fmod 8 = (cellN ns 0 : Int) % 8 := Int.fmod_eq_emod_of_nonneg _ (by omega)
  have k4 : ((cellN ns 1 : Int)).fmod 5 = (cellN ns 1 : Int) % 5 := Int.fmod_eq_emod_of_nonneg _ (by omega)
  have k5 : ((cellN ns 3 : Int)).fmod 2 = (cellN ns 3 : Int) % 2 := Int.fmod_eq_emod_of_nonneg _ (by omega)
  rw [call_fn tb__law_world rfl]
  by_cases h : cellN ns 0 % 8 = 7
  · have hN : worldN ns = 6 + cellN ns 1 % 5 := by unfold worldN; rw [if_pos h]
    have hS : worldS ns = 9 + cellN ns 3 % 2 := by unfold worldS; rw [if_pos h]
    have h' : (cellN ns 0 : Int) % 8 = 7 := by omega
    have i1 : (6 : Int) + (cellN ns 1 : Int) % 5 = (worldN ns : Int) := by omega
    have i2 : (9 : Int) + (cellN ns 3 : Int) % 2 = (worldS ns : Int) := by omega
    simp only [FI__law_world, B__law_world, zD] at *
    simp [c0, c1, c3, k1, k2, k3, k4, k5, h', i1, i2, lc, hz]
  · have hN : worldN ns = 1 + (cellN ns 1 + 2) % 5 := by unfold worldN; rw [if_neg h]
    have hS : worldS ns = (cellN ns 3 + 4) % 7 := by unfold worldS; rw [if_neg h]
    have h' : ¬ (cellN ns 0 : Int) % 8 = 7 := by omega
    have i1 : (1 : Int) + ((cellN ns 1 : Int) + 2) % 5 = (worldN ns : Int) := by omega
    have i2 : ((cellN ns 3 : Int) + 4) % 7 = (worldS ns : Int) := by omega
    simp only [FI__law_world, B__law_world, zD] at *
    simp [c0, c1, c3, k1, k2, k3, k4, k5, h', i1, i2, lc, hz]
theorem worldE_len (ns : List Int) : (worldE ns).length = worldS ns := by simp [worldE]
theorem edgeF_lt (c k : Nat) {n : Nat} (h : 1 ≤ n) : (edgeF c k n).1 < n ∧ (edgeF c k n).2 < n := ⟨Nat.mod_lt _ h, Nat.mod_lt _ h⟩
theorem worldE_in (ns : List Int) : QA.In (worldN ns) (worldE ns) := fun a ha => by
  obtain ⟨k, _, rfl⟩ := List.mem_map.mp ha
  exact edgeF_lt _ _ (worldN_bd ns).1
end W
end
section
set_option maxRecDepth 100000
/-! F2: k56, signs, orders, arrows drawn. -/
namespace W
open PySem L2 PyProof.Rows CI
theorem forL_rg {t : Tg} {body : Mn Fl} {ρ : En} (k : Nat) (I : Nat → En → Prop) (h0 : I 0 ρ) (hs : ∀ i ρ, i < k → I i ρ → ∃ ρ1 ρ2, t (.int (i : Int)) ρ = .ok () ρ1 ∧ body ρ1 = .ok .nx ρ2 ∧ I (i + 1) ρ2) :
    ∃ ρ', forL t body (rgD 0 k) ρ = .ok .nx ρ' ∧ I k ρ' := by
  obtain ⟨ρ', e, q⟩ := forL_inv (t := t) (body := body) (ds := rgD 0 k) (fun i ρ => i ≤ k ∧ I i ρ) (i := 0) ⟨Nat.zero_le _, h0⟩ fun i d ρ _ hd ⟨hi, h⟩ => by
    rw [Nat.sub_zero, rg_nD, nD, List.getElem?_map] at hd
    by_cases hik : i < k
    · rw [List.getElem?_range hik] at hd
      cases hd
      obtain ⟨ρ1, ρ2, e1, e2, q⟩ := hs i ρ hik h
      exact ⟨ρ1, ρ2, e1, e2, by omega, q⟩
    · rw [List.getElem?_eq_none (by simp; omega)] at hd
      cases hd
  rw [Nat.zero_add, rgD_len] at q
  exact ⟨ρ', e, q.2⟩
theorem forL_ix {β : Type} {t : Tg} {body : Mn Fl} {ρ : En} (inj : β → D) (xs : List β) (I : Nat → En → Prop) (h0 : I 0 ρ) (hs : ∀ i x ρ, xs[i]? = some x → I i ρ → ∃ ρ1 ρ2, t (inj x) ρ = .ok () ρ1 ∧ body ρ1 = .ok .nx ρ2 ∧ I (i + 1) ρ2) :
    ∃ ρ', forL t body (xs.map inj) ρ = .ok .nx ρ' ∧ I xs.length ρ' := by
  obtain ⟨ρ', e, q⟩ := forL_inv (t := t) (body := body) (ds := xs.map inj) I (i := 0) h0 fun i d ρ _ hd h => by
    rw [Nat.sub_zero, List.getElem?_map] at hd
    cases hx : xs[i]? with
    | none => rw [hx] at hd; cases hd
    | some x => rw [hx] at hd; cases hd; exact hs i x ρ hx h
  rw [Nat.zero_add, List.length_map] at q
  exact ⟨ρ', e, q⟩
/-! literals -/
theorem l_plus : (("+" : String) : Str) = mkS [43] := by decide +kernel
theorem l_minus : (("-" : String) : Str) = mkS [45] := by decide +kernel
theorem l_pm : (("+-" : String) : Str) = mkS [43, 45] := by decide +kernel
theorem l_emp : (("" : String) : Str) = mkS [] := by decide +kernel
theorem l_bad : (("*,. x0=" : String) : Str) = mkS [42, 44, 46, 32, 120, 48, 61] := by decide +kernel
/-! signs -/
def Sg (cs : List Nat) : Prop := ∀ c ∈ cs, c = 43 ∨ c = 45
theorem Sg.lt {cs : List Nat} (h : Sg cs) : ∀ c ∈ cs, c < 1000 := fun c hc => by rcases h c hc with rfl | rfl <;> decide
def sgn (i : Nat) : Nat := if i % 2 = 0 then 43 else 45
def dsS (c : Nat) : Nat → List Nat × Nat
  | 0 => ([], c)
  | k + 1 => ((dsS c k).1 ++ [sgn ((dsS c k).2 + k / 2)], (dsS c k).2 / 2)
theorem ds_len (c : Nat) : ∀ k, (dsS c k).1.length = k
  | 0 => rfl
  | k + 1 => by show ((dsS c k).1 ++ [_]).length = _; rw [List.length_append, ds_len c k]; rfl
theorem ds_sg (c : Nat) : ∀ k, Sg (dsS c k).1
  | 0, _, h => by cases h
  | k + 1, x, h => by
    have h : x ∈ (dsS c k).1 ++ [sgn ((dsS c k).2 + k / 2)] := h
    rcases List.mem_append.mp h with h | h
    · exact ds_sg c k x h
    · simp at h; rw [h]; unfold sgn; split <;> simp
theorem sg_ix (i : Nat) : ixD (.str (mkS [43, 45])) (.int ((i % 2 : Nat) : Int)) = some (.val (.str (mkS [sgn i]))) := by
  have hs : sizeLine = 16777216 := sizeLine_eq
  refine v_ixS (by simp; omega) ?_
  unfold sgn
  have : i % 2 = 0 ∨ i % 2 = 1 := by omega
  rcases this with h | h <;> simp [h]
theorem ds_loop (c k : Nat) (hk : k ≤ 10) : ∃ s, forL (tNm 4) (cSeq (cSet 3 (cBin oAdd (cVar 3) (cBin ixD (cCst (.str "+-")) (cBin oMod (cBlt (uD gInt) (cCons (cA (cBin oAdd (cVar 2) (cBin oFdiv (cVar 4) (cCst (.int 2))))) cNil)) (cCst (.int 2))))))
    (cSet 2 (cBin oFdiv (cVar 2) (cCst (.int 2))))) (rgD 0 k) [.val (.int c), .val (.int k), .val (.int c), .val (.str (mkS [])), .emp] = .ok .nx [.val (.int c), .val (.int k), .val (.int ((dsS c k).2 : Nat)), .val (.str (mkS (dsS c k).1)), s] := by
  have hs : sizeLine = 16777216 := sizeLine_eq
  obtain ⟨ρ', e, s, e2⟩ := forL_rg (t := tNm 4) (body := (cSeq (cSet 3 (cBin oAdd (cVar 3) (cBin ixD (cCst (.str "+-")) (cBin oMod (cBlt (uD gInt) (cCons (cA (cBin oAdd (cVar 2) (cBin oFdiv (cVar 4) (cCst (.int 2))))) cNil)) (cCst (.int 2))))))
    (cSet 2 (cBin oFdiv (cVar 2) (cCst (.int 2)))))) k (fun i ρ => ∃ s, ρ = [.val (.int c), .val (.int k), .val (.int ((dsS c i).2 : Nat)), .val (.str (mkS (dsS c i).1)), s]) (ρ := [.val (.int c), .val (.int k), .val (.int c), .val (.str (mkS [])), .emp]) ⟨.emp, rfl⟩ fun i ρ hi ⟨s, e⟩ => by
      subst e
      have hl := ds_len c i
      have ha := v_addS (a := (dsS c i).1) (b := [sgn ((dsS c i).2 + i / 2)]) (by simp; omega)
      have d2 : divOk 2 = true := by decide
      have f1 : (i : Int).fdiv 2 = ((i / 2 : Nat) : Int) := fdivN i 2
      have f2 : (((dsS c i).2 : Nat) : Int).fdiv 2 = (((dsS c i).2 / 2 : Nat) : Int) := fdivN _ 2
      have f3 : ((((dsS c i).2 : Nat) : Int) + ((i / 2 : Nat) : Int)).fmod 2 = ((((dsS c i).2 + i / 2) % 2 : Nat) : Int) := fmodN ((dsS c i).2 + i / 2) 2
      have ix := sg_ix ((dsS c i).2 + i / 2)
      refine ⟨_, [.val (.int c), .val (.int k), .val (.int ((dsS c (i + 1)).2 : Nat)), .val (.str (mkS (dsS c (i + 1)).1)), .val (.int i)], rfl, ?_, _, rfl⟩
      simp [-Int.natCast_ediv, -Int.natCast_emod, -Int.natCast_add, d2, f1, f2, f3, l_pm, ix, ha, dsS]
  exact ⟨s, by rw [e, e2]⟩
theorem ev_signs (m c k : Nat) (hk : k ≤ 10) : callF tb (m + 1) "_law_drawn_signs" [.val (.int c), .val (.int k)] = .ok (.val (.str (mkS (dsS c k).1))) := by
  obtain ⟨s, e⟩ := ds_loop c k hk
  have h2 : rg1 (.int (k : Int)) = some (rgD 0 k) := rg1_nat (by omega)
  rw [call_fn tb__law_drawn_signs rfl]
  simp [FI__law_drawn_signs, B__law_drawn_signs, h2, l_emp, e]
end W
end
section
set_option maxRecDepth 100000
/-! F3: k56, the drawn order, arrows, along, the ring. -/
namespace W
open PySem L2 PyProof.Rows CI
theorem cut_take (xs : List D) (k : Nat) : CI.cutD xs none (some (k : Int)) = xs.take k := by
  unfold CI.cutD
  rw [HT.sIx_none, HT.sIx_nat, List.drop_zero, Nat.sub_zero, ← List.take_eq_take_min]
theorem cut_drop (xs : List D) (k : Nat) : CI.cutD xs (some (k : Int)) none = xs.drop k := by
  unfold CI.cutD
  rw [HT.sIx_none, HT.sIx_nat]
  by_cases h : k ≤ xs.length
  · rw [Nat.min_eq_left h, List.take_of_length_le (by simp)]
  · rw [Nat.min_eq_right (by omega), Nat.sub_self, List.take_zero, List.drop_eq_nil_of_le (by omega)]
theorem v_take (xs : List D) {z : Int} {k : Nat} (h : z = k) : slD (.lst xs) none (some z) = some (.own (.lst (xs.take k))) := by
  subst h; show some (Rv.own (.lst (CI.cutD xs none (some (k : Int))))) = _; rw [cut_take]
theorem v_drop (xs : List D) {z : Int} {k : Nat} (h : z = k) : slD (.lst xs) (some z) none = some (.own (.lst (xs.drop k))) := by
  subst h; show some (Rv.own (.lst (CI.cutD xs (some (k : Int)) none))) = _; rw [cut_drop]
theorem v_takeS {a : List Nat} (hl : a.length ≤ sizeLine) {z : Int} {k : Nat} (h : z = k) : slD (.str (mkS a)) none (some z) = some (.val (.str (mkS (a.take k)))) := by
  subst h
  rw [v_slS hl, HT.sIx_none, HT.sIx_nat, List.drop_zero, Nat.sub_zero, ← List.take_eq_take_min]
theorem v_dropS {a : List Nat} (hl : a.length ≤ sizeLine) {z : Int} {k : Nat} (h : z = k) : slD (.str (mkS a)) (some z) none = some (.val (.str (mkS (a.drop k)))) := by
  subst h
  rw [v_slS hl, HT.sIx_none, HT.sIx_nat]
  by_cases h : k ≤ a.length
  · rw [Nat.min_eq_left h, List.take_of_length_le (by simp)]
  · rw [Nat.min_eq_right (by omega), Nat.sub_self, List.take_zero, List.drop_eq_nil_of_le (by omega)]
theorem v_addL {xs ys : List D} (h : xs.length + ys.length ≤ sizeLine) : oAdd (.lst xs) (.lst ys) = some (.own (.lst (xs ++ ys))) := by
  show (if sz (xs.length + ys.length) then _ else _) = _
  rw [if_pos (sz_ok h)]
/-! the order -/
def doS (c n : Nat) : Nat → List Nat × List Nat × Nat
  | 0 => (List.range n, [], c)
  | k + 1 => let s := doS c n k
    let p := (s.2.2 + 1) % s.1.length
    (s.1.take p ++ s.1.drop (p + 1), s.2.1 ++ [s.1.getD p 0], s.2.2 / 10)
def ordF (c n : Nat) : List Nat := (doS c n n).2.1
theorem do_inv (c n : Nat) : ∀ k, k ≤ n → ((doS c n k).2.1 ++ (doS c n k).1).Perm (List.range n) ∧ (doS c n k).2.1.length = k
  | 0, _ => ⟨by simp [doS], rfl⟩
  | k + 1, h => by
    obtain ⟨h1, h2⟩ := do_inv c n k (by omega)
    have hl := h1.length_eq
    rw [List.length_append, h2, List.length_range] at hl
    have hp : ((doS c n k).2.2 + 1) % (doS c n k).1.length < (doS c n k).1.length := Nat.mod_lt _ (by omega)
    refine ⟨?_, ?_⟩
    · show ((doS c n k).2.1 ++ [(doS c n k).1.getD _ 0] ++ ((doS c n k).1.take _ ++ (doS c n k).1.drop _)).Perm _
      generalize ((doS c n k).2.2 + 1) % (doS c n k).1.length = p at hp
      refine List.Perm.trans ?_ h1
      rw [List.append_assoc]
      refine List.Perm.append_left _ ?_
      have e : (doS c n k).1 = (doS c n k).1.take p ++ (doS c n k).1[p] :: (doS c n k).1.drop (p + 1) := by
        rw [← List.drop_eq_getElem_cons hp, List.take_append_drop]
      conv => rhs; rw [e]
      rw [List.getD_eq_getElem?_getD, List.getElem?_eq_getElem hp, Option.getD_some]
      show ((doS c n k).1[p] :: ((doS c n k).1.take p ++ (doS c n k).1.drop (p + 1))).Perm _
      exact List.perm_middle.symm
    · show ((doS c n k).2.1 ++ [_]).length = _
      rw [List.length_append, h2]; rfl
theorem ordF_perm (c n : Nat) : (ordF c n).Perm (List.range n) := by
  obtain ⟨h1, h2⟩ := do_inv c n n (Nat.le_refl _)
  have hl := h1.length_eq
  rw [List.length_append, h2, List.length_range] at hl
  have : (doS c n n).1 = [] := List.length_eq_zero_iff.mp (by omega)
  rw [this, List.append_nil] at h1
  exact h1
noncomputable def doB : Mn Fl := (cSeq (cSet 6 (cBin oMod (cBlt (uD gInt) (cCons (cA (cBin oAdd (cVar 4) (cCst (.int 1)))) cNil)) (cBlt (uD gLen) (cCons (cA (cVar 2)) cNil))))
    (cSeq (cApp 3 (cBin ixD (cVar 2) (cVar 6)))
    (cSeq (cSet 2 (cBin oAdd (cSl (cVar 2) cNoPart (cPart (cVar 6))) (cSl (cVar 2) (cPart (cBin oAdd (cVar 6) (cCst (.int 1)))) cNoPart)))
    (cSet 4 (cBin oFdiv (cVar 4) (cCst (.int 10)))))))
theorem do_loop (c n : Nat) (hn : n ≤ 10) : ∃ s5 s6, forL (tNm 5) doB (rgD 0 n) [.val (.int c), .val (.int n), .own (.lst (nD (List.range n))), .own (.lst []), .val (.int c), .emp, .emp] =
    .ok .nx [.val (.int c), .val (.int n), .own (.lst (nD (doS c n n).1)), .own (.lst (nD (ordF c n))), .val (.int ((doS c n n).2.2 : Nat)), s5, s6] := by
  have hs : sizeLine = 16777216 := sizeLine_eq
  obtain ⟨ρ', e, s5, s6, e2⟩ := forL_rg (t := tNm 5) (body := doB) n (fun i ρ => ∃ s5 s6, ρ = [.val (.int c), .val (.int n), .own (.lst (nD (doS c n i).1)), .own (.lst (nD (doS c n i).2.1)), .val (.int ((doS c n i).2.2 : Nat)), s5, s6]) (ρ := [.val (.int c), .val (.int n), .own (.lst (nD (List.range n))), .own (.lst []), .val (.int c), .emp, .emp]) ⟨.emp, .emp, rfl⟩ fun i ρ hi ⟨s5, s6, e⟩ => by
      subst e
      obtain ⟨h1, h2⟩ := do_inv c n i (by omega)
      have hl := h1.length_eq
      rw [List.length_append, h2, List.length_range] at hl
      have hp : ((doS c n i).2.2 + 1) % (doS c n i).1.length < (doS c n i).1.length := Nat.mod_lt _ (by omega)
      have estep : doS c n (i + 1) = ((doS c n i).1.take (((doS c n i).2.2 + 1) % (doS c n i).1.length) ++ (doS c n i).1.drop (((doS c n i).2.2 + 1) % (doS c n i).1.length + 1), (doS c n i).2.1 ++ [(doS c n i).1.getD (((doS c n i).2.2 + 1) % (doS c n i).1.length) 0], (doS c n i).2.2 / 10) := rfl
      rw [estep]
      generalize doS c n i = S at h1 h2 hl hp ⊢
      obtain ⟨L, O, r⟩ := S
      simp only at h1 h2 hl hp ⊢
      have f1 : ((r : Int) + 1).fmod (L.length : Int) = (((r + 1) % L.length : Nat) : Int) := fmodN (r + 1) L.length
      have f2 : (r : Int).fdiv 10 = ((r / 10 : Nat) : Int) := fdivN r 10
      generalize (r + 1) % L.length = p at hp f1
      have d1 : divOk 10 = true := by decide
      have hat : L[p]? = some L[p] := List.getElem?_eq_getElem hp
      have hap := ev_appD (d := D.int ((L[p] : Nat) : Int)) (xs := nD O) (by simp [nD]; omega)
      have ht := v_take (nD L) (z := (p : Int)) (k := p) rfl
      have hd := v_drop (nD L) (z := (p : Int) + 1) (k := p + 1) (by push_cast; rfl)
      have hadd := v_addL (xs := (nD L).take p) (ys := (nD L).drop (p + 1)) (by simp [nD]; omega)
      have hL0 : ¬ L.length = 0 := by omega
      have hLz : ¬ L = [] := fun e => hL0 (by rw [e]; rfl)
      have hlenD : (nD L).length = L.length := by simp [nD]
      have hix : (nD L)[p]? = some (.int ((L[p] : Nat) : Int)) := by unfold nD; rw [List.getElem?_map, hat]; rfl
      have e1 : nD (L.take p ++ L.drop (p + 1)) = (nD L).take p ++ (nD L).drop (p + 1) := by simp [nD]
      have e2 : nD (O ++ [L.getD p 0]) = nD O ++ [.int ((L[p] : Nat) : Int)] := by simp [nD, List.getD_eq_getElem?_getD, hat]
      rw [e1, e2]
      refine ⟨_, [.val (.int c), .val (.int n), .own (.lst ((nD L).take p ++ (nD L).drop (p + 1))), .own (.lst (nD O ++ [.int ((L[p] : Nat) : Int)])), .val (.int ((r / 10 : Nat) : Int)), .val (.int i), .val (.int p)], rfl, ?_, _, _, rfl⟩
      simp [-Int.natCast_ediv, -Int.natCast_emod, -Int.natCast_add, doB, d1, f1, f2, hlenD, hLz, hap, ht, hd, hadd, hix]
  exact ⟨s5, s6, by rw [e, e2]; rfl⟩
theorem ev_order (m c n : Nat) (hn : n ≤ 10) : callF tb (m + 1) "_law_drawn_order" [.val (.int c), .val (.int n)] = .ok (.own (.lst (nD (ordF c n)))) := by
  obtain ⟨s5, s6, e⟩ := do_loop c n hn
  have h2 : rg1 (.int (n : Int)) = some (rgD 0 n) := rg1_nat (by omega)
  have h3 := v_lrg (n := n) (by omega)
  rw [rg_nD] at h3
  unfold doB at e
  rw [call_fn tb__law_drawn_order rfl]
  simp [FI__law_drawn_order, B__law_drawn_order, h2, h3, e]
end W
end
section
set_option maxRecDepth 100000
/-! F4: k56, arrows, along, the ring. -/
namespace W
open PySem L2 PyProof.Rows CI
def tn (e : Nat × Nat) (c : Nat) : Nat × Nat := if c = 43 then e else (e.2, e.1)
def arr (E : List (Nat × Nat)) (cs : List Nat) : QA.Ar := List.zipWith tn E cs
theorem arr_len {E : List (Nat × Nat)} {cs : List Nat} (h : cs.length = E.length) : (arr E cs).length = E.length := by simp [arr, h]
theorem arr_in {n : Nat} {E : List (Nat × Nat)} (cs : List Nat) (h : QA.In n E) : QA.In n (arr E cs) := fun a ha => by
  unfold arr at ha
  obtain ⟨i, hi, e⟩ := List.mem_iff_getElem.mp ha
  rw [List.getElem_zipWith] at e
  rw [List.length_zipWith] at hi
  have := h _ (List.getElem_mem (show i < E.length by omega))
  subst e
  unfold tn
  split
  · exact this
  · exact ⟨this.2, this.1⟩
theorem arr_take {E : List (Nat × Nat)} {cs : List Nat} (h : cs.length = E.length) {i : Nat} {e : Nat × Nat} {c : Nat} (he : E[i]? = some e) (hc : cs[i]? = some c) : (arr E cs).take (i + 1) = (arr E cs).take i ++ [tn e c] := by
  rw [List.take_add_one]
  have : (arr E cs)[i]? = some (tn e c) := by unfold arr; rw [List.getElem?_zipWith, he, hc]
  rw [this]; rfl
noncomputable def laB : Mn Fl := (cSeq (cSetT (tTup [(tNm 4), (tNm 5)]) (cV (cBin ixD (cVar 0) (cVar 3))))
    (cIfS (cTst (cBin oEq (cBin ixD (cVar 1) (cVar 3)) (cCst (.str "+"))))
    (cApp 2 (cTup (cCons (cV (cFrz 4)) (cCons (cV (cFrz 5)) cNil))))
    (cApp 2 (cTup (cCons (cV (cFrz 5)) (cCons (cV (cFrz 4)) cNil))))))
theorem eq43 {c : Nat} (h : c = 43 ∨ c = 45) : oEq (.str (mkS [c])) (.str (mkS [43])) = some (.val (.bl (decide (c = 43)))) := by
  rw [v_eqM (by intro x hx; simp at hx; subst hx; rcases h with rfl | rfl <;> decide) (by intro x hx; simp at hx; subst hx; decide)]
  simp
theorem la_loop {E : List (Nat × Nat)} {cs : List Nat} (h : cs.length = E.length) (hg : Sg cs) (hl : E.length ≤ 100) (S0 : Sl) (hS : S0 = .val (.lst (E.map eD)) ∨ S0 = .bor (.lst (E.map eD))) :
    ∃ s3 s4 s5, forL (tNm 3) laB (rgD 0 E.length) [S0, .val (.str (mkS cs)), .own (.lst []), .emp, .emp, .emp] = .ok .nx [S0, .val (.str (mkS cs)), .own (.lst ((arr E cs).map eD)), s3, s4, s5] := by
  have hs : sizeLine = 16777216 := sizeLine_eq
  have hz : sz 2 = true := sz_ok (by omega)
  obtain ⟨ρ', e, s3, s4, s5, e2⟩ := forL_rg (t := tNm 3) (body := laB) E.length (fun i ρ => ∃ s3 s4 s5, ρ = [S0, .val (.str (mkS cs)), .own (.lst (((arr E cs).take i).map eD)), s3, s4, s5]) (ρ := [S0, .val (.str (mkS cs)), .own (.lst []), .emp, .emp, .emp]) ⟨.emp, .emp, .emp, rfl⟩ fun i ρ hi ⟨s3, s4, s5, e⟩ => by
      subst e
      obtain ⟨a, ha⟩ : ∃ a, E[i]? = some a := ⟨_, List.getElem?_eq_getElem hi⟩
      obtain ⟨c, hc⟩ : ∃ c, cs[i]? = some c := ⟨_, List.getElem?_eq_getElem (by omega)⟩
      have hcg := hg c (List.mem_of_getElem? hc)
      have htk := arr_take h ha hc
      have hal := arr_len h
      have hap := fun d => ev_appD (d := d) (xs := ((arr E cs).take i).map eD) (by simp; omega)
      have hix := v_ixS (by omega) hc
      rw [htk, List.map_append]
      have h43 := eq43 hcg
      generalize ((arr E cs).take i).map eD = Y at hap ⊢
      refine ⟨_, [S0, .val (.str (mkS cs)), .own (.lst (Y ++ [tn a c].map eD)), .val (.int i), .val (.int a.1), .val (.int a.2)], rfl, ?_, _, _, _, rfl⟩
      by_cases hp : c = 43
      · subst hp
        rcases hS with rfl | rfl <;> simp [laB, ha, hix, h43, l_plus, hz, hap, eD, tn]
      · have h43' : (c = 43) = False := by simp [hp]
        rcases hS with rfl | rfl <;> simp [laB, ha, hix, h43, l_plus, hz, hap, eD, tn, h43']
  refine ⟨s3, s4, s5, ?_⟩
  rw [e, e2, List.take_of_length_le (by rw [arr_len h]; exact Nat.le_refl _)]
theorem ev_larr (m : Nat) {E : List (Nat × Nat)} {cs : List Nat} (h : cs.length = E.length) (hg : Sg cs) (hl : E.length ≤ 100) (q : Rv) (hq : q = .val (.lst (E.map eD)) ∨ q = .bor (.lst (E.map eD))) :
    callF tb (m + 1) "_law_arrows_of" [q, .val (.str (mkS cs))] = .ok (.own (.lst ((arr E cs).map eD))) := by
  have h2 : rg1 (.int (E.length : Int)) = some (rgD 0 E.length) := rg1_nat (by omega)
  rcases hq with rfl | rfl
  · obtain ⟨s3, s4, s5, e⟩ := la_loop h hg hl _ (.inl rfl)
    unfold laB at e
    rw [call_fn tb__law_arrows_of rfl]
    simp [FI__law_arrows_of, B__law_arrows_of, h2, e]
  · obtain ⟨s3, s4, s5, e⟩ := la_loop h hg hl _ (.inr rfl)
    unfold laB at e
    rw [call_fn tb__law_arrows_of rfl]
    simp [FI__law_arrows_of, B__law_arrows_of, h2, e]
/-! graphs -/
def gO (n : Nat) (E : List (Nat × Nat)) (t : Str) : D := .obj "Graph" [("nodes", .int n), ("edges", .tup (E.map eD)), ("size", .int E.length), ("text", .str t)]
theorem g_nodes (n : Nat) (E : List (Nat × Nat)) (t : Str) : fldD ["Graph"] "nodes" (gO n E t) = some (.int n) := by unfold gO; rfl
theorem g_edges (n : Nat) (E : List (Nat × Nat)) (t : Str) : fldD ["Graph"] "edges" (gO n E t) = some (.tup (E.map eD)) := by unfold gO; rfl
theorem g_size (n : Nat) (E : List (Nat × Nat)) (t : Str) : fldD ["Graph"] "size" (gO n E t) = some (.int E.length) := by unfold gO; rfl
/-! arrows_of -/
noncomputable def aoB : Mn Fl := (cIfS (cTst (cBin oEq (cVar 5) (cCst (.str "+"))))
    (cApp 2 (cTup (cCons (cV (cFrz 3)) (cCons (cV (cFrz 4)) cNil))))
    (cApp 2 (cTup (cCons (cV (cFrz 4)) (cCons (cV (cFrz 3)) cNil)))))
theorem zip_ch : ∀ (E : List (Nat × Nat)) (cs : List Nat), zipD (E.map eD) (chD (mkS cs)) = (E.zip cs).map fun p => .tup [eD p.1, .str (mkS [p.2])] := by
  intro E cs
  rw [mkS_ch]
  induction E generalizing cs with
  | nil => simp [zipD]
  | cons e E ih =>
    cases cs with
    | nil => simp [zipD]
    | cons c cs => simp [zipD, ih]
theorem ev_arrows (m : Nat) {n : Nat} {E : List (Nat × Nat)} {t : Str} {cs : List Nat} (h : cs.length = E.length) (hg : Sg cs) (hl : E.length ≤ 100) :
    callF tb (m + 1) "arrows_of" [.val (gO n E t), .val (.str (mkS cs))] = .ok (.own (.lst ((arr E cs).map eD))) := by
  have hs : sizeLine = 16777216 := sizeLine_eq
  have hz : sz 2 = true := sz_ok (by omega)
  have hzl : (E.zip cs).length = E.length := by simp [h]
  obtain ⟨ρ', e, s3, s4, s5, e2⟩ := forL_ix (t := (tTup [(tTup [(tNm 3), (tNm 4)]), (tNm 5)])) (body := aoB) (fun p : (Nat × Nat) × Nat => .tup [eD p.1, .str (mkS [p.2])]) (E.zip cs) (fun i ρ => ∃ s3 s4 s5, ρ = [.val (gO n E t), .val (.str (mkS cs)), .own (.lst (((arr E cs).take i).map eD)), s3, s4, s5]) (ρ := [.val (gO n E t), .val (.str (mkS cs)), .own (.lst []), .emp, .emp, .emp]) ⟨.emp, .emp, .emp, rfl⟩ fun i p ρ hp ⟨s3, s4, s5, e⟩ => by
      subst e
      have hi : i < E.length := by
        rcases Nat.lt_or_ge i E.length with w | w
        · exact w
        · rw [List.getElem?_eq_none (by omega)] at hp; cases hp
      obtain ⟨a, ha⟩ : ∃ a, E[i]? = some a := ⟨_, List.getElem?_eq_getElem hi⟩
      obtain ⟨c, hc⟩ : ∃ c, cs[i]? = some c := ⟨_, List.getElem?_eq_getElem (by omega)⟩
      rw [List.zip, List.getElem?_zipWith, ha, hc] at hp
      cases hp
      have hcg := hg c (List.mem_of_getElem? hc)
      have htk := arr_take h ha hc
      have hal := arr_len h
      have hap := fun d => ev_appD (d := d) (xs := ((arr E cs).take i).map eD) (by simp; omega)
      rw [htk, List.map_append]
      have h43 := eq43 hcg
      generalize ((arr E cs).take i).map eD = Y at hap ⊢
      refine ⟨[.val (gO n E t), .val (.str (mkS cs)), .own (.lst Y), .val (.int a.1), .val (.int a.2), .val (.str (mkS [c]))], [.val (gO n E t), .val (.str (mkS cs)), .own (.lst (Y ++ [tn a c].map eD)), .val (.int a.1), .val (.int a.2), .val (.str (mkS [c]))], by simp [eD], ?_, _, _, _, rfl⟩
      by_cases hp : c = 43
      · subst hp
        simp [aoB, h43, l_plus, hz, hap, eD, tn]
      · have h43' : (c = 43) = False := by simp [hp]
        simp [aoB, h43, l_plus, hz, hap, eD, tn, h43']
  rw [hzl, List.take_of_length_le (by rw [arr_len h]; exact Nat.le_refl _)] at e2
  have f1 := g_edges n E t
  unfold aoB at e
  rw [e2] at e
  generalize gO n E t = G at f1 e
  rw [call_fn tb_arrows_of rfl]
  simp [FI_arrows_of, B_arrows_of, f1, zip_ch, e]
end W
end
section
set_option maxRecDepth 100000
/-! F5: k56, along, the ring. -/
namespace W
open PySem L2 PyProof.Rows CI
theorem idxOf_nZ (a : Nat) : ∀ O : List Nat, (nZ O).idxOf (a : Int) = O.idxOf a
  | [] => rfl
  | b :: O => by
    show ((b : Int) :: nZ O).idxOf (a : Int) = _
    rw [List.idxOf_cons, List.idxOf_cons, idxOf_nZ a O]
    have : ((b : Int) == (a : Int)) = (b == a) := by
      rw [Bool.eq_iff_iff, beq_iff_eq, beq_iff_eq]
      omega
    rw [this]
theorem mem_nZ {a : Nat} {O : List Nat} : (a : Int) ∈ nZ O ↔ a ∈ O := by
  unfold nZ
  rw [List.mem_map]
  constructor
  · rintro ⟨b, hb, e⟩
    have : b = a := by omega
    exact this ▸ hb
  · intro h; exact ⟨a, h, rfl⟩
theorem v_indexN {a : Nat} {O : List Nat} (h : a ∈ O) : gIndex (.lst (nD O)) [.int (a : Int)] = some (.val (.int (O.idxOf a : Nat))) := by
  rw [nD_z, v_index (mem_nZ.mpr h), idxOf_nZ]
def alg (E : List (Nat × Nat)) (O : List Nat) : List Nat := E.map fun e => if O.idxOf e.1 < O.idxOf e.2 then 43 else 45
theorem alg_len (E : List (Nat × Nat)) (O : List Nat) : (alg E O).length = E.length := by simp [alg]
theorem alg_sg (E : List (Nat × Nat)) (O : List Nat) : Sg (alg E O) := fun c hc => by
  obtain ⟨e, _, rfl⟩ := List.mem_map.mp hc
  split <;> simp
noncomputable def alB : Mn Fl := (cIfS (cTst (cBin oLt (cML gIndex (cVar 1) (cCons (cA (cVar 3)) cNil)) (cML gIndex (cVar 1) (cCons (cA (cVar 4)) cNil))))
    (cSet 2 (cBin oAdd (cVar 2) (cCst (.str "+"))))
    (cSet 2 (cBin oAdd (cVar 2) (cCst (.str "-")))))
theorem al_loop {E : List (Nat × Nat)} {O : List Nat} (hO : ∀ e ∈ E, e.1 ∈ O ∧ e.2 ∈ O) (hl : E.length ≤ 100) (S0 : Sl) :
    ∃ s3 s4, forL (tTup [(tNm 3), (tNm 4)]) alB (E.map eD) [S0, .val (.lst (nD O)), .val (.str (mkS [])), .emp, .emp] = .ok .nx [S0, .val (.lst (nD O)), .val (.str (mkS (alg E O))), s3, s4] := by
  have hs : sizeLine = 16777216 := sizeLine_eq
  obtain ⟨ρ', e, s3, s4, e2⟩ := forL_ix (t := tTup [(tNm 3), (tNm 4)]) (body := alB) eD E (fun i ρ => ∃ s3 s4, ρ = [S0, .val (.lst (nD O)), .val (.str (mkS ((alg E O).take i))), s3, s4]) (ρ := [S0, .val (.lst (nD O)), .val (.str (mkS [])), .emp, .emp]) ⟨.emp, .emp, rfl⟩ fun i a ρ ha ⟨s3, s4, e⟩ => by
      subst e
      have hi : i < E.length := by
        rcases Nat.lt_or_ge i E.length with w | w
        · exact w
        · rw [List.getElem?_eq_none (by omega)] at ha; cases ha
      obtain ⟨h1, h2⟩ := hO a (List.mem_of_getElem? ha)
      have x1 := v_indexN h1
      have x2 := v_indexN h2
      have htk : (alg E O).take (i + 1) = (alg E O).take i ++ [if O.idxOf a.1 < O.idxOf a.2 then 43 else 45] := by
        rw [List.take_add_one]
        have : (alg E O)[i]? = some (if O.idxOf a.1 < O.idxOf a.2 then 43 else 45) := by unfold alg; rw [List.getElem?_map, ha]; rfl
        rw [this]; rfl
      have htl : ((alg E O).take i).length ≤ 100 := by rw [List.length_take, alg_len]; omega
      rw [htk]
      generalize (alg E O).take i = Y at htl ⊢
      have a1 := v_addS (a := Y) (b := [43]) (by simp; omega)
      have a2 := v_addS (a := Y) (b := [45]) (by simp; omega)
      generalize nD O = OD at x1 x2 ⊢
      refine ⟨[S0, .val (.lst OD), .val (.str (mkS Y)), .val (.int a.1), .val (.int a.2)], [S0, .val (.lst OD), .val (.str (mkS (Y ++ [if O.idxOf a.1 < O.idxOf a.2 then 43 else 45]))), .val (.int a.1), .val (.int a.2)], by simp [eD], ?_, _, _, rfl⟩
      by_cases h : O.idxOf a.1 < O.idxOf a.2
      · simp [alB, x1, x2, h, l_plus, l_minus, a1, a2]
      · simp [alB, x1, x2, h, l_plus, l_minus, a1, a2]
  refine ⟨s3, s4, ?_⟩
  rw [e, e2, List.take_of_length_le (by rw [alg_len]; exact Nat.le_refl _)]
theorem ev_along (m : Nat) {E : List (Nat × Nat)} {O : List Nat} (hO : ∀ e ∈ E, e.1 ∈ O ∧ e.2 ∈ O) (hl : E.length ≤ 100) (q : Rv) (hq : q = .val (.lst (E.map eD)) ∨ q = .bor (.lst (E.map eD))) :
    callF tb (m + 1) "_law_along" [q, .val (.lst (nD O))] = .ok (.val (.str (mkS (alg E O)))) := by
  rcases hq with rfl | rfl
  · obtain ⟨s3, s4, e⟩ := al_loop hO hl (.val (.lst (E.map eD)))
    unfold alB at e
    rw [call_fn tb__law_along rfl]
    simp [FI__law_along, B__law_along, l_emp, e]
  · obtain ⟨s3, s4, e⟩ := al_loop hO hl (.bor (.lst (E.map eD)))
    unfold alB at e
    rw [call_fn tb__law_along rfl]
    simp [FI__law_along, B__law_along, l_emp, e]
/-! the ring -/
def rgS (O : List Nat) (c many : Nat) : Nat → List (Nat × Nat) × List Nat × Nat
  | 0 => ([], [], c / 10)
  | k + 1 => let s := rgS O c many k
    (s.1 ++ [if s.2.2 % 2 = 1 then (O.getD ((k + 1) % many) 0, O.getD k 0) else (O.getD k 0, O.getD ((k + 1) % many) 0)], s.2.1 ++ [if s.2.2 % 2 = 1 then 45 else 43], s.2.2 / 2)
def ringM (O : List Nat) (c : Nat) : Nat := 1 + (c + 2) % O.length
def ringE (O : List Nat) (c : Nat) : List (Nat × Nat) := (rgS O c (ringM O c) (ringM O c)).1
def ringC (O : List Nat) (c : Nat) : List Nat := (rgS O c (ringM O c) (ringM O c)).2.1
theorem rg_inv {n : Nat} (O : List Nat) (c many : Nat) (hO : ∀ v ∈ O, v < n) (hn : 0 < n) : ∀ k, (rgS O c many k).1.length = k ∧ (rgS O c many k).2.1.length = k ∧ QA.In n (rgS O c many k).1 ∧ Sg (rgS O c many k).2.1
  | 0 => ⟨rfl, rfl, fun _ h => by (simp [rgS] at h), fun _ h => by (simp [rgS] at h)⟩
  | k + 1 => by
    obtain ⟨h1, h2, h3, h4⟩ := rg_inv O c many hO hn k
    have hg : ∀ j, O.getD j 0 < n := fun j => by
      rw [List.getD_eq_getElem?_getD]
      cases e : O[j]? with
      | none => exact hn
      | some v => exact hO v (List.mem_of_getElem? e)
    have e : rgS O c many (k + 1) = ((rgS O c many k).1 ++ [if (rgS O c many k).2.2 % 2 = 1 then (O.getD ((k + 1) % many) 0, O.getD k 0) else (O.getD k 0, O.getD ((k + 1) % many) 0)], (rgS O c many k).2.1 ++ [if (rgS O c many k).2.2 % 2 = 1 then 45 else 43], (rgS O c many k).2.2 / 2) := rfl
    rw [e]
    refine ⟨by simp [h1], by simp [h2], fun a ha => ?_, fun x hx => ?_⟩
    · rcases List.mem_append.mp ha with ha | ha
      · exact h3 a ha
      · simp only [List.mem_cons, List.not_mem_nil, or_false] at ha
        subst ha
        split
        · exact ⟨hg _, hg _⟩
        · exact ⟨hg _, hg _⟩
    · rcases List.mem_append.mp hx with hx | hx
      · exact h4 x hx
      · simp only [List.mem_cons, List.not_mem_nil, or_false] at hx
        subst hx
        split <;> simp
noncomputable def rgB : Mn Fl := (cSeq (cSet 7 (cBin ixD (cVar 0) (cVar 6)))
    (cSeq (cSet 8 (cBin ixD (cVar 0) (cBin oMod (cBlt (uD gInt) (cCons (cA (cBin oAdd (cVar 6) (cCst (.int 1)))) cNil)) (cVar 2))))
    (cSeq (cIfS (cTst (cBin oEq (cBin oMod (cBlt (uD gInt) (cCons (cA (cVar 3)) cNil)) (cCst (.int 2))) (cCst (.int 1))))
    (cSeq (cApp 4 (cTup (cCons (cV (cFrz 8)) (cCons (cV (cFrz 7)) cNil))))
    (cSet 5 (cBin oAdd (cVar 5) (cCst (.str "-")))))
    (cSeq (cApp 4 (cTup (cCons (cV (cFrz 7)) (cCons (cV (cFrz 8)) cNil))))
    (cSet 5 (cBin oAdd (cVar 5) (cCst (.str "+"))))))
    (cSet 3 (cBin oFdiv (cVar 3) (cCst (.int 2)))))))
theorem rg_loop {O : List Nat} {n : Nat} (hO : ∀ v ∈ O, v < n) (c many : Nat) (hm : many ≤ O.length) (h1 : 1 ≤ many) (hl : O.length ≤ 10) (S1 : Sl) :
    ∃ s6 s7 s8, forL (tNm 6) rgB (rgD 0 many) [.val (.lst (nD O)), S1, .val (.int many), .val (.int ((c / 10 : Nat) : Int)), .own (.lst []), .val (.str (mkS [])), .emp, .emp, .emp] =
      .ok .nx [.val (.lst (nD O)), S1, .val (.int many), .val (.int ((rgS O c many many).2.2 : Nat)), .own (.lst ((rgS O c many many).1.map eD)), .val (.str (mkS (rgS O c many many).2.1)), s6, s7, s8] := by
  have hs : sizeLine = 16777216 := sizeLine_eq
  have hz : sz 2 = true := sz_ok (by omega)
  have hn : 0 < n := by
    have := hO O[0] (List.getElem_mem (by omega))
    omega
  obtain ⟨ρ', e, s6, s7, s8, e2⟩ := forL_rg (t := tNm 6) (body := rgB) many (fun i ρ => ∃ s6 s7 s8, ρ = [.val (.lst (nD O)), S1, .val (.int many), .val (.int ((rgS O c many i).2.2 : Nat)), .own (.lst ((rgS O c many i).1.map eD)), .val (.str (mkS (rgS O c many i).2.1)), s6, s7, s8])
    (ρ := [.val (.lst (nD O)), S1, .val (.int many), .val (.int ((c / 10 : Nat) : Int)), .own (.lst []), .val (.str (mkS [])), .emp, .emp, .emp]) ⟨.emp, .emp, .emp, rfl⟩ fun i ρ hi ⟨s6, s7, s8, e⟩ => by
      subst e
      obtain ⟨g1, g2, _, _⟩ := rg_inv O c many hO hn i
      have estep : rgS O c many (i + 1) = ((rgS O c many i).1 ++ [if (rgS O c many i).2.2 % 2 = 1 then (O.getD ((i + 1) % many) 0, O.getD i 0) else (O.getD i 0, O.getD ((i + 1) % many) 0)], (rgS O c many i).2.1 ++ [if (rgS O c many i).2.2 % 2 = 1 then 45 else 43], (rgS O c many i).2.2 / 2) := rfl
      rw [estep]
      generalize rgS O c many i = S at g1 g2 ⊢
      obtain ⟨E, C, r⟩ := S
      simp only at g1 g2 ⊢
      have f1 : ((i : Int) + 1).fmod (many : Int) = (((i + 1) % many : Nat) : Int) := fmodN (i + 1) many
      have f2 : (r : Int).fdiv 2 = ((r / 2 : Nat) : Int) := fdivN r 2
      have f3 : (r : Int).fmod 2 = ((r % 2 : Nat) : Int) := fmodN r 2
      have hp : (i + 1) % many < many := Nat.mod_lt _ (by omega)
      generalize (i + 1) % many = p at hp f1
      obtain ⟨u, hu⟩ : ∃ u, O[i]? = some u := ⟨_, List.getElem?_eq_getElem (by omega)⟩
      obtain ⟨w, hw⟩ : ∃ w, O[p]? = some w := ⟨_, List.getElem?_eq_getElem (by omega)⟩
      have eu : (nD O)[i]? = some (.int (u : Int)) := by unfold nD; rw [List.getElem?_map, hu]; rfl
      have ew : (nD O)[p]? = some (.int (w : Int)) := by unfold nD; rw [List.getElem?_map, hw]; rfl
      have gu : O.getD i 0 = u := by rw [List.getD_eq_getElem?_getD, hu]; rfl
      have gw : O.getD p 0 = w := by rw [List.getD_eq_getElem?_getD, hw]; rfl
      rw [gu, gw, List.map_append]
      have d2 : divOk 2 = true := by decide
      have hm0 : ¬ many = 0 := by omega
      have hap := fun d => ev_appD (d := d) (xs := E.map eD) (by simp; omega)
      have a1 := v_addS (a := C) (b := [43]) (by simp; omega)
      have a2 := v_addS (a := C) (b := [45]) (by simp; omega)
      generalize nD O = OD at eu ew ⊢
      generalize E.map eD = ED at hap ⊢
      by_cases h : r % 2 = 1
      · have h' : ((r % 2 : Nat) : Int) = 1 := by omega
        rw [if_pos h, if_pos h]
        refine ⟨_, [.val (.lst OD), S1, .val (.int many), .val (.int ((r / 2 : Nat) : Int)), .own (.lst (ED ++ [eD (w, u)])), .val (.str (mkS (C ++ [45]))), .val (.int i), .val (.int u), .val (.int w)], rfl, ?_, _, _, _, rfl⟩
        simp [-Int.natCast_ediv, -Int.natCast_emod, -Int.natCast_add, rgB, f1, f2, f3, d2, hm0, eu, ew, hap, a1, a2, hz, h', l_plus, l_minus, eD]
      · have h' : ¬ ((r % 2 : Nat) : Int) = 1 := by omega
        rw [if_neg h, if_neg h]
        refine ⟨_, [.val (.lst OD), S1, .val (.int many), .val (.int ((r / 2 : Nat) : Int)), .own (.lst (ED ++ [eD (u, w)])), .val (.str (mkS (C ++ [43]))), .val (.int i), .val (.int u), .val (.int w)], rfl, ?_, _, _, _, rfl⟩
        simp [-Int.natCast_ediv, -Int.natCast_emod, -Int.natCast_add, rgB, f1, f2, f3, d2, hm0, eu, ew, hap, a1, a2, hz, h', l_plus, l_minus, eD]
  exact ⟨s6, s7, s8, by rw [e, e2]⟩
theorem ev_ring (m : Nat) {O : List Nat} {n : Nat} (hO : ∀ v ∈ O, v < n) (c : Nat) (h1 : 1 ≤ O.length) (hl : O.length ≤ 10) :
    callF tb (m + 1) "_law_ring_of" [.val (.lst (nD O)), .val (.int c)] = .ok (.val (.tup [.lst ((ringE O c).map eD), .str (mkS (ringC O c))])) := by
  have hs : sizeLine = 16777216 := sizeLine_eq
  have hz : sz 2 = true := sz_ok (by omega)
  have hM : (c + 2) % O.length < O.length := Nat.mod_lt _ h1
  obtain ⟨s6, s7, s8, e⟩ := rg_loop hO c (ringM O c) (by unfold ringM; omega) (by unfold ringM; omega) hl (.val (.int c))
  have f1 : ((c : Int) + 2).fmod (O.length : Int) = (((c + 2) % O.length : Nat) : Int) := fmodN (c + 2) O.length
  have f2 : (c : Int).fdiv 10 = ((c / 10 : Nat) : Int) := fdivN c 10
  have e1 : (1 : Int) + (((c + 2) % O.length : Nat) : Int) = ((ringM O c : Nat) : Int) := by unfold ringM; omega
  have d10 : divOk 10 = true := by decide
  have h2 : rg1 (.int ((ringM O c : Nat) : Int)) = some (rgD 0 (ringM O c)) := rg1_nat (by unfold ringM; omega)
  have hO0 : ¬ O = [] := fun e => by rw [e] at h1; simp at h1
  have hlenD : (nD O).length = O.length := by simp [nD]
  unfold rgB at e
  rw [call_fn tb__law_ring_of rfl]
  unfold ringE ringC
  generalize nD O = OD at e hlenD ⊢
  simp [-Int.natCast_ediv, -Int.natCast_emod, -Int.natCast_add, FI__law_ring_of, B__law_ring_of, hlenD, hO0, f1, f2, e1, d10, l_emp, h2, e, hz]
end W
end
section
set_option maxRecDepth 100000
/-! F6: k56, what is reached. -/
namespace W
open PySem L2 PyProof.Rows CI
theorem bor_nat (a b : Nat) : Builtin.bitOr (a : Int) (b : Int) = ((a ||| b : Nat) : Int) := by
  have n1 : ∀ x : Int, Builtin.bitNot x = -x - 1 := fun x => by unfold Builtin.bitNot; omega
  unfold Builtin.bitOr Builtin.bitAnd
  have h1 : decide (0 ≤ Builtin.bitNot (a : Int)) = false := by rw [n1]; simp; omega
  have h2 : decide (0 ≤ Builtin.bitNot (b : Int)) = false := by rw [n1]; simp; omega
  rw [h1, h2]
  simp only
  have e1 : (Builtin.bitNot (Builtin.bitNot (a : Int))).toNat = a := by rw [n1, n1]; omega
  have e2 : (Builtin.bitNot (Builtin.bitNot (b : Int))).toNat = b := by rw [n1, n1]; omega
  rw [e1, e2, n1, n1]
  omega
theorem v_or (a b : Nat) : oOr (.int (a : Int)) (.int (b : Int)) = some (.val (.int ((a ||| b : Nat) : Int))) := by
  show vI (Builtin.bitOr (a : Int) (b : Int)) = _
  rw [bor_nat]; rfl
theorem v_shl1 {k : Nat} (h : k ≤ 100) : oShl (.int 1) (.int (k : Int)) = some (.val (.int ((1 <<< k : Nat) : Int))) := by
  have hp : powOk 1 (k : Int) = true := by unfold powOk; simp; omega
  show (if powOk 1 (k : Int) then vI (1 * 2 ^ (k : Int).toNat) else none) = _
  rw [if_pos hp, Nat.shiftLeft_eq, Int.toNat_natCast]
  show some (Rv.val (.int _)) = _
  congr 3
theorem tbit (r t : Nat) : decide (Builtin.bitAnd ((r : Int) / 2 ^ t) 1 = 1) = r.testBit t := by
  rw [bitAnd_m1]
  have e : ((r : Int) / 2 ^ t) = ((r / 2 ^ t : Nat) : Int) := by push_cast; rfl
  rw [e, Nat.testBit_eq_decide_div_mod_eq]
  by_cases h : r / 2 ^ t % 2 = 1
  · simp only [h, decide_true, decide_eq_true_eq]; omega
  · simp only [h, decide_false, decide_eq_false_iff_not]; omega
theorem nD_at {r : List Nat} {i : Nat} (h : i < r.length) : (nD r)[i]? = some (.int ((r.getD i 0 : Nat) : Int)) := by
  unfold nD
  rw [List.getElem?_map, List.getD_eq_getElem?_getD, List.getElem?_eq_getElem h]; rfl
theorem nD_set (r : List Nat) (i x : Nat) : nD (r.set i x) = (nD r).set i (.int (x : Int)) := by unfold nD; rw [List.map_set]
noncomputable def rcI : Mn Fl := (cSetT (tSub 2 (cVar 4)) (cV (cBin oOr (cBin ixD (cVar 2) (cVar 4)) (cBin ixD (cVar 2) (cVar 5)))))
theorem rc_inner {n : Nat} {A : QA.Ar} (hA : QA.In n A) (r : List Nat) (hr : r.length = n) (S1 s3 s4 s5 : Sl) :
    ∃ t4 t5, forL (tTup [(tNm 4), (tNm 5)]) rcI (A.map eD) [.val (.int n), S1, .own (.lst (nD r)), s3, s4, s5] = .ok .nx [.val (.int n), S1, .own (.lst (nD (QA.rnd A r))), s3, t4, t5] := by
  obtain ⟨ρ', e, t4, t5, e2⟩ := forL_ix (t := tTup [(tNm 4), (tNm 5)]) (body := rcI) eD A (fun i ρ => ∃ s4 s5, ρ = [.val (.int n), S1, .own (.lst (nD ((A.take i).foldl QA.step r))), s3, s4, s5]) (ρ := [.val (.int n), S1, .own (.lst (nD r)), s3, s4, s5]) ⟨s4, s5, rfl⟩ fun i a ρ ha ⟨t4, t5, e⟩ => by
      subst e
      obtain ⟨h1, h2⟩ := hA a (List.mem_of_getElem? ha)
      have htk : A.take (i + 1) = A.take i ++ [a] := by rw [List.take_add_one, ha]; rfl
      have hl : ((A.take i).foldl QA.step r).length = n := by
        have := QA.rnd_len (A.take i) r
        unfold QA.rnd at this
        rw [this, hr]
      rw [htk, List.foldl_append]
      generalize (A.take i).foldl QA.step r = q at hl ⊢
      have x1 := nD_at (r := q) (i := a.1) (by omega)
      have x2 := nD_at (r := q) (i := a.2) (by omega)
      have hs := nD_set q a.1 (q.getD a.1 0 ||| q.getD a.2 0)
      have hor := v_or (q.getD a.1 0) (q.getD a.2 0)
      have hql : (nD q).length = n := by simp [nD, hl]
      have hsd := ev_setD (d := .int ((q.getD a.1 0 ||| q.getD a.2 0 : Nat) : Int)) (xs := nD q) (k := a.1) (by omega)
      show ∃ ρ1 ρ2, _ ∧ _ ∧ ∃ s4 s5, ρ2 = [.val (.int n), S1, .own (.lst (nD (QA.step q a))), s3, s4, s5]
      unfold QA.step
      rw [hs]
      generalize nD q = Q at x1 x2 hql hsd ⊢
      generalize q.getD a.1 0 = x at x1 hor hsd ⊢
      generalize q.getD a.2 0 = y at x2 hor hsd ⊢
      generalize (x ||| y : Nat) = z at hor hsd ⊢
      refine ⟨[.val (.int n), S1, .own (.lst Q), s3, .val (.int a.1), .val (.int a.2)], [.val (.int n), S1, .own (.lst (Q.set a.1 (.int (z : Int)))), s3, .val (.int a.1), .val (.int a.2)], by simp [eD], ?_, _, _, rfl⟩
      simp [rcI, x1, x2, hor, hsd]
  refine ⟨t4, t5, ?_⟩
  rw [e, e2, List.take_length]
  rfl
theorem rc_outer {n : Nat} {A : QA.Ar} (hA : QA.In n A) (hn : n ≤ 10) : ∃ s3 s4 s5, forL (tNm 3) (cLock 1 (cFor (ciVarY 1) (tTup [(tNm 4), (tNm 5)]) rcI)) (rgD 0 n) [.val (.int n), .bor (.lst (A.map eD)), .own (.lst (nD (QA.r0 n))), .emp, .emp, .emp] =
    .ok .nx [.val (.int n), .bor (.lst (A.map eD)), .own (.lst (nD (QA.rnds A n (QA.r0 n)))), s3, s4, s5] := by
  obtain ⟨ρ', e, t3, t4, t5, e2⟩ := forL_rg (t := tNm 3) (body := (cLock 1 (cFor (ciVarY 1) (tTup [(tNm 4), (tNm 5)]) rcI))) n (fun i ρ => ∃ s3 s4 s5, ρ = [.val (.int n), .bor (.lst (A.map eD)), .own (.lst (nD (QA.rnds A i (QA.r0 n)))), s3, s4, s5]) (ρ := [.val (.int n), .bor (.lst (A.map eD)), .own (.lst (nD (QA.r0 n))), .emp, .emp, .emp]) ⟨.emp, .emp, .emp, rfl⟩ fun i ρ hi ⟨t3, t4, t5, e⟩ => by
      subst e
      have hl : (QA.rnds A i (QA.r0 n)).length = n := by rw [QA.rnds_len]; simp [QA.r0]
      have estep : QA.rnds A (i + 1) (QA.r0 n) = QA.rnd A (QA.rnds A i (QA.r0 n)) := by rw [QA.rnds_add A i 1]; rfl
      rw [estep]
      generalize QA.rnds A i (QA.r0 n) = q at hl ⊢
      obtain ⟨u4, u5, e⟩ := rc_inner hA q hl (.bor (.lst (A.map eD))) (.val (.int i)) t4 t5
      refine ⟨[.val (.int n), .bor (.lst (A.map eD)), .own (.lst (nD q)), .val (.int i), t4, t5], [.val (.int n), .bor (.lst (A.map eD)), .own (.lst (nD (QA.rnd A q))), .val (.int i), u4, u5], rfl, ?_, _, _, _, rfl⟩
      simp [e]
  exact ⟨t3, t4, t5, by rw [e, e2]⟩
theorem ev_reach (m : Nat) {n : Nat} {A : QA.Ar} (hA : QA.In n A) (hn : n ≤ 10) : callF tb (m + 1) "_law_reach_of" [.val (.int n), .bor (.lst (A.map eD))] = .ok (.own (.lst (nD (QA.rnds A n (QA.r0 n))))) := by
  have hs : sizeLine = 16777216 := sizeLine_eq
  obtain ⟨s3, s4, s5, e⟩ := rc_outer hA hn
  have h2 : rg1 (.int (n : Int)) = some (rgD 0 n) := rg1_nat (by omega)
  have lc := ev_lcN (i := 3) (it := ciRg1 (cVar 0)) (elt := cBin oShl (cCst (.int 1)) (cVar 3)) (xs := List.range n) (s := .emp)
    (ρ := [.val (.int n), .bor (.lst (A.map eD)), .emp, .emp, .emp, .emp]) (ρ1 := [.val (.int n), .bor (.lst (A.map eD)), .emp, .emp, .emp, .emp])
    (fun (k : Nat) => D.int (k : Int)) (fun (k : Nat) => D.int ((1 <<< k : Nat) : Int)) (by simp [h2, rg_nD, nD]) rfl rfl (by simp; omega) fun k hk => by
      have hk := List.mem_range.mp hk
      have := v_shl1 (k := k) (by omega)
      generalize (1 <<< k : Nat) = z at this ⊢
      simp [this]
  have e1 : ((List.range n).map fun (k : Nat) => D.int ((1 <<< k : Nat) : Int)) = nD (QA.r0 n) := by simp [nD, QA.r0]
  rw [e1] at lc
  unfold rcI at e
  rw [call_fn tb__law_reach_of rfl]
  generalize nD (QA.r0 n) = R0 at lc e
  simp [FI__law_reach_of, B__law_reach_of, lc, h2, e]
theorem ev_has (m : Nat) {n : Nat} {A : QA.Ar} (hA : QA.In n A) (hn : n ≤ 10) (hl : A.length ≤ 100) : callF tb (m + 2) "_law_has_round" [.val (.int n), .bor (.lst (A.map eD))] = .ok (.val (.bl (QA.hasR n A))) := by
  have hs : sizeLine = 16777216 := sizeLine_eq
  have er := ev_reach m hA hn
  have hl2 : (QA.rnds A n (QA.r0 n)).length = n := by rw [QA.rnds_len]; simp [QA.r0]
  have hR : QA.hasR n A = A.any fun a => QA.bit (QA.rnds A n (QA.r0 n)) a.2 a.1 := rfl
  rw [hR]
  generalize QA.rnds A n (QA.r0 n) = R at er hl2 ⊢
  have lc := ev_lcG (it := ciVarY 1) (t := .tup [(.nm 4), (.nm 5)]) (cond := (cTst (cBin oEq (cBin oAnd (cBin oShr (cBin ixD (cVar 2) (cVar 5)) (cVar 4)) (cCst (.int 1))) (cCst (.int 1))))) (elt := cCst (.int 1)) (vs := [4, 5]) (xs := A)
    (ρ := [.val (.int n), .bor (.lst (A.map eD)), .own (.lst (nD R)), .emp, .emp, .emp]) (ρ1 := [.val (.int n), .bor (.lst (A.map eD)), .own (.lst (nD R)), .emp, .emp, .emp]) [.val (.int n), .bor (.lst (A.map eD)), .own (.lst (nD R)), .emp, .emp, .emp]
    eD (fun a => QA.bit R a.2 a.1) (fun _ => .int 1) (fun a => [.val (.int n), .bor (.lst (A.map eD)), .own (.lst (nD R)), .emp, .val (.int a.1), .val (.int a.2)]) (by simp) rfl rfl rfl (by omega) fun a ha => by
      obtain ⟨h1, h2⟩ := hA a ha
      have x2 := nD_at (r := R) (i := a.2) (by omega)
      have hsr : oShr (.int ((R.getD a.2 0 : Nat) : Int)) (.int (a.1 : Int)) = some (.val (.int (((R.getD a.2 0 : Nat) : Int) / 2 ^ a.1))) := by
        show (if (0 : Int) ≤ (a.1 : Int) then vI (((R.getD a.2 0 : Nat) : Int) / 2 ^ (a.1 : Int).toNat) else none) = _
        rw [if_pos (by omega), Int.toNat_natCast]; rfl
      have hand : oAnd (.int (((R.getD a.2 0 : Nat) : Int) / 2 ^ a.1)) (.int 1) = some (.val (.int (Builtin.bitAnd (((R.getD a.2 0 : Nat) : Int) / 2 ^ a.1) 1))) := rfl
      have ht := tbit (R.getD a.2 0) a.1
      refine ⟨rfl, rfl, ?_, fun _ => rfl⟩
      unfold QA.bit
      rw [← ht]
      generalize nD R = RD at x2 ⊢
      generalize R.getD a.2 0 = x at x2 hsr hand ⊢
      generalize ((x : Int) / 2 ^ a.1) = y at hsr hand ⊢
      generalize Builtin.bitAnd y 1 = z at hand ⊢
      simp [x2, hsr, hand]
  rw [call_fn tb__law_has_round rfl]
  have fin : decide (0 < (A.filter fun a => QA.bit R a.2 a.1).length) = A.any fun a => QA.bit R a.2 a.1 := by
    rw [Bool.eq_iff_iff, decide_eq_true_eq, List.any_eq_true, List.length_pos_iff_exists_mem]
    constructor
    · rintro ⟨a, ha⟩; exact ⟨a, (List.mem_filter.mp ha).1, (List.mem_filter.mp ha).2⟩
    · rintro ⟨a, h1, h2⟩; exact ⟨a, List.mem_filter.mpr ⟨h1, h2⟩⟩
  have fin2 : decide ((0 : Int) < ((A.filter fun a => QA.bit R a.2 a.1).length : Int)) = A.any fun a => QA.bit R a.2 a.1 := by
    rw [← fin, Bool.eq_iff_iff, decide_eq_true_eq, decide_eq_true_eq]
    omega
  generalize nD R = RD at lc er
  simp only [FI__law_has_round, B__law_has_round]
  simp [er, lc]
  exact fin2
end W
end
section
set_option maxRecDepth 100000
/-! F7: k56, orders judged. -/
namespace W
open PySem L2 PyProof.Rows CI
def isO (n : Nat) (A : QA.Ar) (row : List Int) : Bool := decide (sortI row = nZ (List.range n)) && A.all fun a => decide (row.idxOf (a.1 : Int) < row.idxOf (a.2 : Int))
theorem sortI_perm (row : List Int) : (sortI row).Perm row := by unfold sortI; exact List.mergeSort_perm _ _
theorem sort_perm {n : Nat} {row : List Int} (h : sortI row = nZ (List.range n)) : row.Perm (nZ (List.range n)) := h ▸ (sortI_perm row).symm
theorem nZ_nodup {l : List Nat} (h : l.Nodup) : (nZ l).Nodup := by
  unfold nZ
  rw [List.Nodup, List.pairwise_map]
  exact h.imp fun {a b} hab e => hab (by omega)
theorem row_mem {n : Nat} {row : List Int} (h : sortI row = nZ (List.range n)) {a : Nat} (ha : a < n) : (a : Int) ∈ row := (sort_perm h).mem_iff.mpr (mem_nZ.mpr (List.mem_range.mpr ha))
theorem row_nodup {n : Nat} {row : List Int} (h : sortI row = nZ (List.range n)) : row.Nodup := (sort_perm h).nodup_iff.mpr (nZ_nodup List.nodup_range)
theorem row_len {n : Nat} {row : List Int} (h : sortI row = nZ (List.range n)) : row.length = n := by
  have := (sort_perm h).length_eq
  simpa [nZ] using this
theorem v_lrgZ {n : Nat} (h : n ≤ 2 ^ 24) : gLrg1 (.int (n : Int)) = some (.own (.lst ((nZ (List.range n)).map .int))) := by
  rw [v_lrg h, rg_nD, nD_z]
noncomputable def ioB : Mn Fl := (cIfS (cTst (cBin oGe (cML gIndex (cVar 2) (cCons (cA (cVar 3)) cNil)) (cML gIndex (cVar 2) (cCons (cA (cVar 4)) cNil))))
    (cRet (cCst (.bl false)))
    cPass)
theorem io_loop {n : Nat} {A : QA.Ar} (hA : QA.In n A) {row : List Int} (hr : sortI row = nZ (List.range n)) (S0 S1 S2 s3 s4 : Sl) (hS : S2 = .val (.lst (row.map .int)) ∨ S2 = .bor (.lst (row.map .int))) :
    ((A.all fun a => decide (row.idxOf (a.1 : Int) < row.idxOf (a.2 : Int))) = true → ∃ s3' s4', forL (tTup [(tNm 3), (tNm 4)]) ioB (A.map eD) [S0, S1, S2, s3, s4] = .ok .nx [S0, S1, S2, s3', s4']) ∧
    ((A.all fun a => decide (row.idxOf (a.1 : Int) < row.idxOf (a.2 : Int))) = false → ∃ ρ', forL (tTup [(tNm 3), (tNm 4)]) ioB (A.map eD) [S0, S1, S2, s3, s4] = .ok (.ret (.val (.bl false))) ρ') := by
  obtain ⟨k1, k2⟩ := forL_chk (t := tTup [(tNm 3), (tNm 4)]) (body := ioB) (fun ρ => ∃ s3 s4, ρ = [S0, S1, S2, s3, s4]) eD (fun a => decide (row.idxOf (a.1 : Int) < row.idxOf (a.2 : Int))) (.val (.bl false)) A [S0, S1, S2, s3, s4] ⟨s3, s4, rfl⟩ fun a ha ρ ⟨t3, t4, e⟩ => by
    subst e
    obtain ⟨h1, h2⟩ := hA a ha
    have x1 := v_index (row_mem hr h1)
    have x2 := v_index (row_mem hr h2)
    generalize row.map D.int = RD at x1 x2 hS
    refine ⟨[S0, S1, S2, .val (.int a.1), .val (.int a.2)], by simp [eD], fun h => ⟨[S0, S1, S2, .val (.int a.1), .val (.int a.2)], .inl ?_, _, _, rfl⟩, fun h => ⟨[S0, S1, S2, .val (.int a.1), .val (.int a.2)], ?_⟩⟩
    · have h := of_decide_eq_true h
      have h' : ¬ row.idxOf (a.2 : Int) ≤ row.idxOf (a.1 : Int) := by omega
      rcases hS with rfl | rfl <;> simp [ioB, x1, x2, h']
    · have h := of_decide_eq_false h
      have h' : row.idxOf (a.2 : Int) ≤ row.idxOf (a.1 : Int) := by omega
      rcases hS with rfl | rfl <;> simp [ioB, x1, x2, h']
  refine ⟨fun h => ?_, k2⟩
  obtain ⟨ρ', e, s3', s4', e2⟩ := k1 h
  exact ⟨s3', s4', by rw [e, e2]⟩
theorem ev_isO (m : Nat) {n : Nat} {A : QA.Ar} (hA : QA.In n A) (hn : n ≤ 10) (row : List Int) (q : Rv) (hq : q = .val (.lst (row.map .int)) ∨ q = .bor (.lst (row.map .int))) :
    callF tb (m + 1) "_law_is_order" [.val (.int n), .bor (.lst (A.map eD)), q] = .ok (.val (.bl (isO n A row))) := by
  have h1 := v_sortL row
  have h2 := v_lrgZ (n := n) (by omega)
  have h3 := v_neL (sortI row) (nZ (List.range n))
  have key : ∀ S2 : Sl, S2 = .val (.lst (row.map .int)) ∨ S2 = .bor (.lst (row.map .int)) → resOf (B__law_is_order (callF tb m) [.val (.int n), .bor (.lst (A.map eD)), S2, .emp, .emp]) = .ok (.val (.bl (isO n A row))) := fun S2 hS => by
    unfold isO
    by_cases hr : sortI row = nZ (List.range n)
    · obtain ⟨k1, k2⟩ := io_loop hA hr (.val (.int n)) (.bor (.lst (A.map eD))) S2 .emp .emp hS
      rw [hr] at h1 h3
      simp only [hr, decide_true, Bool.true_and] at h3 ⊢
      cases hall : (A.all fun a => decide (row.idxOf (a.1 : Int) < row.idxOf (a.2 : Int))) with
      | true =>
        obtain ⟨s3, s4, e⟩ := k1 hall
        unfold ioB at e
        generalize row.map D.int = RD at h1 hS
        generalize (nZ (List.range n)).map D.int = ND at h1 h2 h3
        rcases hS with rfl | rfl <;> simp [B__law_is_order, h1, h2, h3, e]
      | false =>
        obtain ⟨ρ', e⟩ := k2 hall
        unfold ioB at e
        generalize row.map D.int = RD at h1 hS
        generalize (nZ (List.range n)).map D.int = ND at h1 h2 h3
        rcases hS with rfl | rfl <;> simp [B__law_is_order, h1, h2, h3, e]
    · have hd : decide (sortI row = nZ (List.range n)) = false := decide_eq_false hr
      rw [hd] at h3 ⊢
      generalize row.map D.int = RD at h1 hS
      generalize (nZ (List.range n)).map D.int = ND at h2 h3
      generalize (sortI row).map D.int = SD at h1 h3
      rcases hS with rfl | rfl <;> simp [B__law_is_order, h1, h2, h3]
  rcases hq with rfl | rfl
  · rw [call_fn tb__law_is_order rfl]; exact key _ (.inl rfl)
  · rw [call_fn tb__law_is_order rfl]; exact key _ (.inr rfl)
/-! dicts of places -/
theorem dK_key (k : Key) : keyD (dK k) = some k := by cases k <;> rfl
theorem getKD_put (a : List (D × D)) (k k' : Key) (v : D) : getKD (putKD a k v) k' = if k' = k then some v else getKD a k' := by
  unfold putKD
  split
  · rename_i hany
    unfold getKD
    rw [List.find?_map]
    have e : (fun kv : D × D => decide (keyD kv.1 = some k')) ∘ (fun kv : D × D => if keyD kv.1 = some k then (kv.1, v) else kv) = fun kv => decide (keyD kv.1 = some k') := by
      funext kv
      simp only [Function.comp]
      split <;> rfl
    rw [e]
    by_cases h : k' = k
    · subst h
      rw [if_pos rfl]
      cases hf : a.find? fun kv => decide (keyD kv.1 = some k') with
      | none =>
        obtain ⟨x, hx, hk⟩ := List.any_eq_true.mp hany
        exact absurd hk (by have := List.find?_eq_none.mp hf x hx; simpa using this)
      | some x =>
        have := List.find?_some hf
        simp only [decide_eq_true_eq] at this
        simp [this]
    · rw [if_neg h]
      cases hf : a.find? fun kv => decide (keyD kv.1 = some k') with
      | none => rfl
      | some x =>
        have := List.find?_some hf
        simp only [decide_eq_true_eq] at this
        have h2 : ¬ keyD x.1 = some k := by rw [this]; exact fun e => h (Option.some.inj e)
        simp [h2]
  · rename_i hany
    unfold getKD
    rw [List.find?_append]
    by_cases h : k' = k
    · subst h
      rw [if_pos rfl]
      have : (a.find? fun kv => decide (keyD kv.1 = some k')) = none := by
        rw [List.find?_eq_none]
        intro x hx
        have hn := hany
        intro hk
        exact hn (List.any_eq_true.mpr ⟨x, hx, hk⟩)
      rw [this]
      simp [dK_key]
    · rw [if_neg h]
      cases hf : a.find? fun kv => decide (keyD kv.1 = some k') with
      | none =>
        have : ¬ k = k' := fun e => h e.symm
        simp [dK_key, this]
      | some x => rfl
def plc (row : List Int) : List (D × D) := row.zipIdx.foldl (fun a p => putKD a (.inl p.1) (.int (p.2 : Nat))) []
theorem put_fold : ∀ (ps : List (Int × Nat)) (acc : List (D × D)) (x : Int), ((∀ p ∈ ps, p.1 ≠ x) → getKD (ps.foldl (fun a p => putKD a (.inl p.1) (.int (p.2 : Nat))) acc) (.inl x) = getKD acc (.inl x)) ∧
    ∀ i : Nat, (ps.map (·.1)).Nodup → (x, i) ∈ ps → getKD (ps.foldl (fun a p => putKD a (.inl p.1) (.int (p.2 : Nat))) acc) (.inl x) = some (.int (i : Nat))
  | [], acc, x => ⟨fun _ => rfl, fun _ _ h => by cases h⟩
  | p :: ps, acc, x => by
    refine ⟨fun h => ?_, fun i nd h => ?_⟩
    · rw [List.foldl_cons, (put_fold ps _ x).1 fun q hq => h q (List.mem_cons_of_mem _ hq), getKD_put, if_neg fun e => h p List.mem_cons_self (Sum.inl.inj e).symm]
    · rw [List.map_cons, List.nodup_cons] at nd
      rw [List.foldl_cons]
      rcases List.mem_cons.mp h with e | h
      · subst e
        rw [(put_fold ps _ x).1 fun q hq e => nd.1 (List.mem_map.mpr ⟨q, hq, e⟩), getKD_put, if_pos rfl]
      · exact (put_fold ps _ x).2 i nd.2 h
theorem plc_get {row : List Int} (nd : row.Nodup) {x : Int} (h : x ∈ row) : getKD (plc row) (.inl x) = some (.int (row.idxOf x : Nat)) := by
  refine (put_fold _ _ _).2 _ ?_ ?_
  · rw [List.zipIdx_map_fst]; exact nd
  · rw [List.mem_zipIdx_iff_getElem?]
    rw [List.getElem?_eq_getElem (List.idxOf_lt_length_of_mem h), List.getElem_idxOf]
theorem enum_zip : ∀ (row : List Int) (n : Nat), enumD n (row.map D.int) = (row.zipIdx n).map fun p => .tup [.int (p.2 : Nat), .int p.1]
  | [], _ => rfl
  | a :: row, n => by
    rw [List.map_cons, List.zipIdx_cons, List.map_cons]
    show D.tup [.int (n : Int), .int a] :: enumD (n + 1) (row.map D.int) = _
    rw [enum_zip row (n + 1)]
end W
end
section
set_option maxRecDepth 100000
/-! F8: k56, signs checked, orders shown. -/
namespace W
open PySem L2 PyProof.Rows CI
def goodS (cs : List Nat) (size : Nat) : Bool := decide (cs.length = size) && cs.all fun c => decide (c ∈ ([43, 45] : List Nat))
theorem goodS_of {cs : List Nat} {size : Nat} (h1 : cs.length = size) (h2 : Sg cs) : goodS cs size = true := by
  unfold goodS
  rw [Bool.and_eq_true, decide_eq_true_eq, List.all_eq_true]
  refine ⟨h1, fun c hc => ?_⟩
  rw [decide_eq_true_eq]
  rcases h2 c hc with rfl | rfl <;> simp
abbrev xSg (cs : List Nat) : Exc := ("BadSigns", [("signs", .str (mkS cs))])
noncomputable def csB : Mn Fl := (cIfS (cTst (cBin oNotIn (cVar 2) (cCst (.str "+-"))))
    (cRseF ("BadSigns" : Str) ("signs" : Str) gKeep (cCons (cA (cFrz 0)) cNil))
    cPass)
theorem cs_loop (cs ds : List Nat) (S1 s2 : Sl) : ((ds.all fun c => decide (c ∈ ([43, 45] : List Nat))) = true → ∃ s2', forL (tNm 2) csB (ds.map fun c => D.str (mkS [c])) [.val (.str (mkS cs)), S1, s2] = .ok .nx [.val (.str (mkS cs)), S1, s2']) ∧
    ((ds.all fun c => decide (c ∈ ([43, 45] : List Nat))) = false → ∃ ρ', forL (tNm 2) csB (ds.map fun c => D.str (mkS [c])) [.val (.str (mkS cs)), S1, s2] = .exc (xSg cs) ρ') := by
  induction ds generalizing s2 with
  | nil => exact ⟨fun _ => ⟨s2, rfl⟩, fun h => by cases h⟩
  | cons c ds ih =>
    have hn := v_notInS c [43, 45]
    rw [List.all_cons, List.map_cons]
    by_cases h : c ∈ ([43, 45] : List Nat)
    · have e1 : csB [.val (.str (mkS cs)), S1, .val (.str (mkS [c]))] = .ok .nx [.val (.str (mkS cs)), S1, .val (.str (mkS [c]))] := by
        rw [decide_eq_true h] at hn
        simp [csB, l_pm, hn]
      rw [decide_eq_true h, Bool.true_and, forL_cnx (t := tNm 2) (body := csB) (ρ := [.val (.str (mkS cs)), S1, s2]) rfl (.inl e1)]
      exact ih _
    · have e1 : csB [.val (.str (mkS cs)), S1, .val (.str (mkS [c]))] = .exc (xSg cs) [.val (.str (mkS cs)), S1, .val (.str (mkS [c]))] := by
        rw [decide_eq_false h] at hn
        simp [csB, l_pm, hn]
      rw [decide_eq_false h, Bool.false_and]
      exact ⟨fun h => (by cases h), fun _ => ⟨_, forL_cexc (t := tNm 2) (body := csB) (ρ := [.val (.str (mkS cs)), S1, s2]) rfl e1⟩⟩
theorem ev_check (m : Nat) (cs : List Nat) (size : Nat) (hl : cs.length ≤ 1000) : (goodS cs size = true → callF tb (m + 1) "check_signs" [.val (.str (mkS cs)), .val (.int size)] = .ok (.val .non)) ∧
    (goodS cs size = false → callF tb (m + 1) "check_signs" [.val (.str (mkS cs)), .val (.int size)] = .exc (xSg cs)) := by
  have hs : sizeLine = 16777216 := sizeLine_eq
  have hlen := v_lenS (a := cs) (by omega)
  have hch := mkS_ch cs
  obtain ⟨k1, k2⟩ := cs_loop cs cs (.val (.int size)) .emp
  unfold csB at k1 k2
  rw [call_fn tb_check_signs rfl]
  unfold goodS
  by_cases h : cs.length = size
  · have h' : (cs.length : Int) = (size : Int) := by omega
    rw [decide_eq_true h, Bool.true_and]
    refine ⟨fun hg => ?_, fun hg => ?_⟩
    · obtain ⟨s2, e⟩ := k1 hg
      simp [FI_check_signs, B_check_signs, hlen, h, hch, e]
    · obtain ⟨ρ', e⟩ := k2 hg
      simp [FI_check_signs, B_check_signs, hlen, h, hch, e]
  · have h' : ¬ (cs.length : Int) = (size : Int) := by omega
    rw [decide_eq_false h, Bool.false_and]
    refine ⟨fun hg => (by cases hg), fun _ => ?_⟩
    simp [FI_check_signs, B_check_signs, hlen, h, h']
/-! shows_order -/
noncomputable def soB : Mn Fl := (cIfS (cTst (cBin oGe (cBin dgetD (cVar 3) (cVar 4)) (cBin dgetD (cVar 3) (cVar 5))))
    (cRet (cCst (.bl false)))
    cPass)
theorem dget_plc {n : Nat} {row : List Int} (hr : sortI row = nZ (List.range n)) {a : Nat} (ha : a < n) : dgetD (.dic (plc row)) (.int (a : Int)) = some (.val (.int (row.idxOf (a : Int) : Nat))) := by
  have := plc_get (row_nodup hr) (row_mem hr ha)
  show ((keyD (.int (a : Int))).bind fun q => (getKD (plc row) q).map Rv.val) = _
  show (getKD (plc row) (.inl (a : Int))).map Rv.val = _
  rw [this]; rfl
theorem so_loop {n : Nat} {A : QA.Ar} (hA : QA.In n A) {row : List Int} (hr : sortI row = nZ (List.range n)) (S0 S1 S2 s4 s5 s6 s7 : Sl) :
    ((A.all fun a => decide (row.idxOf (a.1 : Int) < row.idxOf (a.2 : Int))) = true → ∃ ρ', forL (tTup [(tNm 4), (tNm 5)]) soB (A.map eD) [S0, S1, S2, .own (.dic (plc row)), s4, s5, s6, s7] = .ok .nx ρ') ∧
    ((A.all fun a => decide (row.idxOf (a.1 : Int) < row.idxOf (a.2 : Int))) = false → ∃ ρ', forL (tTup [(tNm 4), (tNm 5)]) soB (A.map eD) [S0, S1, S2, .own (.dic (plc row)), s4, s5, s6, s7] = .ok (.ret (.val (.bl false))) ρ') := by
  obtain ⟨k1, k2⟩ := forL_chk (t := tTup [(tNm 4), (tNm 5)]) (body := soB) (fun ρ => ∃ s4 s5, ρ = [S0, S1, S2, .own (.dic (plc row)), s4, s5, s6, s7]) eD (fun a => decide (row.idxOf (a.1 : Int) < row.idxOf (a.2 : Int))) (.val (.bl false)) A [S0, S1, S2, .own (.dic (plc row)), s4, s5, s6, s7] ⟨s4, s5, rfl⟩ fun a ha ρ ⟨t4, t5, e⟩ => by
    subst e
    obtain ⟨h1, h2⟩ := hA a ha
    have x1 := dget_plc hr h1
    have x2 := dget_plc hr h2
    generalize plc row = PL at x1 x2 ⊢
    refine ⟨[S0, S1, S2, .own (.dic PL), .val (.int a.1), .val (.int a.2), s6, s7], by simp [eD], fun h => ⟨[S0, S1, S2, .own (.dic PL), .val (.int a.1), .val (.int a.2), s6, s7], .inl ?_, _, _, rfl⟩, fun h => ⟨[S0, S1, S2, .own (.dic PL), .val (.int a.1), .val (.int a.2), s6, s7], ?_⟩⟩
    · have h := of_decide_eq_true h
      have h' : ¬ row.idxOf (a.2 : Int) ≤ row.idxOf (a.1 : Int) := by omega
      simp [soB, x1, x2, h']
    · have h := of_decide_eq_false h
      have h' : row.idxOf (a.2 : Int) ≤ row.idxOf (a.1 : Int) := by omega
      simp [soB, x1, x2, h']
  exact ⟨fun h => let ⟨ρ', e, _⟩ := k1 h; ⟨ρ', e⟩, k2⟩
/-- a row as an argument -/
inductive RowA (row : List Int) : Rv → Sl → Prop
  | vl : RowA row (.val (.lst (row.map .int))) (.val (.lst (row.map .int)))
  | bl : RowA row (.bor (.lst (row.map .int))) (.bor (.lst (row.map .int)))
  | vt : RowA row (.val (.tup (row.map .int))) (.val (.tup (row.map .int)))
theorem RowA.sl {row : List Int} {q : Rv} {S : Sl} (h : RowA row q S) : argSl q = S := by cases h <;> rfl
theorem so_dc {row : List Int} {q : Rv} {S2 : Sl} (hq : RowA row q S2) (hl : row.length ≤ 1000) (S0 S1 : Sl) : cDc (ciEnumY (qV 2)) (.tup [(.nm 6), (.nm 7)]) cYes (cFrz 7) (cFrz 6) [6, 7] [S0, S1, S2, .emp, .emp, .emp, .emp, .emp] = .ok (.own (.dic (plc row))) [S0, S1, S2, .emp, .emp, .emp, .emp, .emp] := by
  have hs : sizeLine = 16777216 := sizeLine_eq
  have he := enum_zip row 0
  have hit : ciEnumY (qV 2) [S0, S1, S2, .emp, .emp, .emp, .emp, .emp] = .ok (row.zipIdx.map fun p => D.tup [.int (p.2 : Nat), .int p.1]) [S0, S1, S2, .emp, .emp, .emp, .emp, .emp] := by
    cases hq <;> simp [he]
  exact ev_dcG (β := Int × Nat) [S0, S1, S2, .emp, .emp, .emp, .emp, .emp] (fun p => D.tup [.int (p.2 : Nat), .int p.1]) (fun p => .inl p.1) (fun p => .int p.1) (fun p => .int (p.2 : Nat)) (fun p => [S0, S1, S2, .emp, .emp, .emp, .val (.int (p.2 : Nat)), .val (.int p.1)]) hit rfl rfl rfl (by simp; omega)
    fun p hp => ⟨rfl, rfl, rfl, by simp, by simp, rfl⟩
theorem so_sort {row : List Int} {q : Rv} {S2 : Sl} (hq : RowA row q S2) (S0 S1 : Sl) : cBlt gSortY (cCons (cA (cVar 2)) cNil) [S0, S1, S2, .emp, .emp, .emp, .emp, .emp] = .ok (.own (.lst ((sortI row).map .int))) [S0, S1, S2, .emp, .emp, .emp, .emp, .emp] := by
  have h1 := v_sortL row
  have h2 := v_sortT row
  generalize (sortI row).map D.int = SD at h1 h2 ⊢
  cases hq <;> simp [h1, h2]
theorem lk_dc {row : List Int} {q : Rv} {S2 : Sl} (hq : RowA row q S2) {α : Type} (c : Mn α) (S0 S1 s3 s4 s5 s6 s7 : Sl) : cLock 2 c [S0, S1, S2, s3, s4, s5, s6, s7] = c [S0, S1, S2, s3, s4, s5, s6, s7] := by cases hq <;> rfl
theorem ev_showsO (m : Nat) {n : Nat} {E : List (Nat × Nat)} {t : Str} {cs : List Nat} (hE : QA.In n E) (h : cs.length = E.length) (hg : Sg cs) (hl : E.length ≤ 100) (hn : n ≤ 10) {row : List Int} (hrl : row.length ≤ 1000) {q : Rv} {S2 : Sl} (hq : RowA row q S2) :
    callF tb (m + 2) "shows_order" [.val (gO n E t), .val (.str (mkS cs)), q] = .ok (.val (.bl (isO n (arr E cs) row))) := by
  have c1 := (ev_check m cs E.length (by omega)).1 (goodS_of h hg)
  have c2 := ev_arrows m (n := n) (t := t) h hg hl
  have f1 := g_size n E t
  have f2 := g_nodes n E t
  have hA := arr_in cs hE
  have h2 := v_lrgZ (n := n) (by omega)
  have h3 := v_neL (sortI row) (nZ (List.range n))
  have srt := so_sort hq (.val (gO n E t)) (.val (.str (mkS cs)))
  have dcx := so_dc hq hrl (.val (gO n E t)) (.val (.str (mkS cs)))
  have lk := @lk_dc row q S2 hq
  rw [call_fn tb_shows_order rfl]
  simp only [FI_shows_order, ev_start, List.map_cons, List.map_nil, hq.sl]
  generalize gO n E t = G at c1 c2 f1 f2 srt dcx ⊢
  generalize arr E cs = A at c2 hA ⊢
  generalize mkS cs = M at c1 c2 srt dcx ⊢
  unfold isO
  by_cases hr : sortI row = nZ (List.range n)
  · rw [hr] at h3 srt
    obtain ⟨k1, k2⟩ := so_loop hA hr (.val G) (.val (.str M)) S2 .emp .emp .emp .emp
    simp only [hr, decide_true, Bool.true_and] at h3 ⊢
    generalize plc row = PL at dcx k1 k2
    generalize (nZ (List.range n)).map D.int = ND at srt h2 h3
    unfold soB at k1 k2
    cases hall : (A.all fun a => decide (row.idxOf (a.1 : Int) < row.idxOf (a.2 : Int))) with
    | true =>
      obtain ⟨ρ', e⟩ := k1 hall
      simp [B_shows_order, c1, c2, f1, f2, srt, h2, h3, lk, dcx, e, -ev_blt]
    | false =>
      obtain ⟨ρ', e⟩ := k2 hall
      simp [B_shows_order, c1, c2, f1, f2, srt, h2, h3, lk, dcx, e, -ev_blt]
  · have hd : decide (sortI row = nZ (List.range n)) = false := decide_eq_false hr
    rw [hd] at h3 ⊢
    generalize (sortI row).map D.int = SD at srt h3
    generalize (nZ (List.range n)).map D.int = ND at h2 h3
    simp [B_shows_order, c1, f1, f2, srt, h2, h3, -ev_blt]
end W
end
section
set_option maxRecDepth 100000
/-! F9: k56, the walk back. -/
namespace W
open PySem L2 PyProof.Rows CI
theorem v_notInN (a : Nat) (l : List Nat) : oNotIn (.int (a : Int)) (.lst (nD l)) = some (.val (.bl (!decide (a ∈ l)))) := by
  rw [nD_z, v_notInI]
  congr 4
  rw [Bool.eq_iff_iff, decide_eq_true_eq, decide_eq_true_eq]
  exact mem_nZ
theorem v_inN (a : Nat) (l : List Nat) : oIn (.int (a : Int)) (.lst (nD l)) = some (.val (.bl (decide (a ∈ l)))) := by
  rw [nD_z, v_inI]
  congr 3
  rw [Bool.eq_iff_iff, decide_eq_true_eq, decide_eq_true_eq]
  exact mem_nZ
theorem enum_zipE : ∀ (A : QA.Ar) (n : Nat), enumD n (A.map eD) = (A.zipIdx n).map fun p => .tup [.int (p.2 : Nat), eD p.1]
  | [], _ => rfl
  | a :: A, n => by
    rw [List.map_cons, List.zipIdx_cons, List.map_cons]
    show D.tup [.int (n : Int), eD a] :: enumD (n + 1) (A.map eD) = _
    rw [enum_zipE A (n + 1)]
theorem idxs_zip (A : QA.Ar) (L : List Nat) (v : Nat) : ((A.zipIdx.filter fun p => decide (p.1.2 = v) && decide (p.1.1 ∈ L)).map fun p => D.int ((p.2 : Nat) : Int)) = nD (QA.idxs A L v) := by
  have e : A.zipIdx = (List.range A.length).map fun i => (A.getD i (0, 0), i) := by
    apply List.ext_getElem?
    intro i
    rw [List.getElem?_zipIdx, List.getElem?_map]
    by_cases h : i < A.length
    · rw [List.getElem?_range h, List.getElem?_eq_getElem h]
      simp [List.getD_eq_getElem?_getD, List.getElem?_eq_getElem h]
    · rw [List.getElem?_eq_none (by omega), List.getElem?_eq_none (by simp; omega)]
      rfl
  rw [e, List.filter_map, List.map_map]
  rfl
noncomputable def rwE : Mn Rv := (cLc (ciEnumY (qV 0)) (.tup [(.nm 7), (.tup [(.nm 8), (.nm 9)])]) (cAnd (cTst (cBin oEq (cVar 9) (cVar 2))) (cTst (cBin oIn (cVar 8) (cVar 1)))) (cFrz 7) [7, 8, 9])
theorem rw_edge (A : QA.Ar) (L : List Nat) (v : Nat) (hl : A.length ≤ 100) (s3 s4 s5 s6 : Sl) : rwE [.bor (.lst (A.map eD)), .bor (.lst (nD L)), .val (.int v), s3, s4, s5, s6, .emp, .emp, .emp] = .ok (.own (.lst (nD (QA.idxs A L v)))) [.bor (.lst (A.map eD)), .bor (.lst (nD L)), .val (.int v), s3, s4, s5, s6, .emp, .emp, .emp] := by
  have hs : sizeLine = 16777216 := sizeLine_eq
  have he := enum_zipE A 0
  have lc := ev_lcG (β := (Nat × Nat) × Nat) (it := ciEnumY (qV 0)) (t := .tup [(.nm 7), (.tup [(.nm 8), (.nm 9)])]) (cond := (cAnd (cTst (cBin oEq (cVar 9) (cVar 2))) (cTst (cBin oIn (cVar 8) (cVar 1))))) (elt := cFrz 7) (vs := [7, 8, 9]) (xs := A.zipIdx)
    (ρ := [.bor (.lst (A.map eD)), .bor (.lst (nD L)), .val (.int v), s3, s4, s5, s6, .emp, .emp, .emp]) (ρ1 := [.bor (.lst (A.map eD)), .bor (.lst (nD L)), .val (.int v), s3, s4, s5, s6, .emp, .emp, .emp]) [.bor (.lst (A.map eD)), .bor (.lst (nD L)), .val (.int v), s3, s4, s5, s6, .emp, .emp, .emp]
    (fun p => .tup [.int (p.2 : Nat), eD p.1]) (fun p => decide (p.1.2 = v) && decide (p.1.1 ∈ L)) (fun p => .int (p.2 : Nat)) (fun p => [.bor (.lst (A.map eD)), .bor (.lst (nD L)), .val (.int v), s3, s4, s5, s6, .val (.int (p.2 : Nat)), .val (.int p.1.1), .val (.int p.1.2)]) (by simp [he]) rfl rfl rfl (by simp; omega) fun p hp => by
      refine ⟨rfl, rfl, ?_, fun _ => by simp⟩
      have hin := v_inN p.1.1 L
      generalize nD L = LD at hin ⊢
      by_cases h : p.1.2 = v
      · simp [hin, h]
      · have h' : ¬ ((p.1.2 : Nat) : Int) = (v : Int) := by omega
        simp [h, h']
  unfold rwE
  rw [lc, idxs_zip]
noncomputable def rwC : Mn Bool := cTst (cBin oNotIn (cVar 2) (cVar 3))
noncomputable def rwB : Mn Fl := (cSeq (cApp 3 (cFrz 2))
    (cSeq (cSet 5 (cBin ixD (cLock 0 rwE) (cCst (.int 0))))
    (cSeq (cApp 4 (cFrz 5))
    (cSet 2 (cBin ixD (cBin ixD (cVar 0) (cVar 5)) (cCst (.int 0)))))))
theorem rw_while {n : Nat} {A : QA.Ar} {L : List Nat} (hl : A.length ≤ 100) (hL : ∀ v ∈ L, v < n) (hn : n ≤ 10) (hh : ∀ v ∈ L, v ∈ QA.heads A L) (s6 : Sl) : ∀ (k : Nat) (P E : List Nat) (v : Nat) (s5 : Sl), n - P.length ≤ k → QA.Walk A L P E v →
    ∃ P' E' v' s5', QA.Walk A L P' E' v' ∧ v' ∈ P' ∧ cWhile rwC rwB [.bor (.lst (A.map eD)), .bor (.lst (nD L)), .val (.int v), .own (.lst (nD P)), .own (.lst (nD E)), s5, s6, .emp, .emp, .emp] = .ok .nx [.bor (.lst (A.map eD)), .bor (.lst (nD L)), .val (.int v'), .own (.lst (nD P')), .own (.lst (nD E')), s5', s6, .emp, .emp, .emp] := by
  have hs : sizeLine = 16777216 := sizeLine_eq
  intro k
  induction k with
  | zero =>
    intro P E v s5 hk w
    by_cases hv : v ∈ P
    · refine ⟨P, E, v, s5, w, hv, wh_F ?_⟩
      have := v_notInN v P
      rw [decide_eq_true hv] at this
      generalize nD P = PD at this ⊢
      simp [rwC, this]
    · have := QA.nodup_le n (P ++ [v]) (by
        rw [List.nodup_append]
        refine ⟨w.nd, by simp, fun a ha b hb => ?_⟩
        simp at hb
        subst hb
        exact fun e => hv (e ▸ ha)) (fun x hx => by
          rcases List.mem_append.mp hx with hx | hx
          · exact hL x (w.sub x hx)
          · simp at hx; rw [hx]; exact hL v w.vL)
      rw [List.length_append] at this
      simp at this
      omega
  | succ k ih =>
    intro P E v s5 hk w
    by_cases hv : v ∈ P
    · refine ⟨P, E, v, s5, w, hv, wh_F ?_⟩
      have := v_notInN v P
      rw [decide_eq_true hv] at this
      generalize nD P = PD at this ⊢
      simp [rwC, this]
    · obtain ⟨e, u, h1, h2, h3⟩ := QA.idxs_ok (hh v w.vL)
      have w2 := w.next hv h2 h3
      obtain ⟨P', E', v', s5', g1, g2, g3⟩ := ih (P ++ [v]) (E ++ [e]) u (.val (.int e)) (by simp; omega) w2
      have hPl : P.length ≤ n := QA.nodup_le n P w.nd fun x hx => hL x (w.sub x hx)
      have hEl := w.len
      refine ⟨P', E', v', s5', g1, g2, ?_⟩
      refine wh_T (ρ1 := [.bor (.lst (A.map eD)), .bor (.lst (nD L)), .val (.int v), .own (.lst (nD P)), .own (.lst (nD E)), s5, s6, .emp, .emp, .emp]) ?_ (.inl ?_) g3 rfl
      · have := v_notInN v P
        rw [decide_eq_false hv] at this
        generalize nD P = PD at this ⊢
        simp [rwC, this]
      · have e1 : nD (P ++ [v]) = nD P ++ [.int (v : Int)] := by simp [nD]
        have e2 : nD (E ++ [e]) = nD E ++ [.int (e : Int)] := by simp [nD]
        rw [e1, e2]
        have a1 := ev_appD (d := .int (v : Int)) (xs := nD P) (by simp [nD]; omega)
        have a2 := ev_appD (d := .int (e : Int)) (xs := nD E) (by simp [nD]; omega)
        have re := fun s3 s4 s5 => rw_edge A L v hl s3 s4 s5 s6
        have i0 : ixD (.lst (nD (QA.idxs A L v))) (.int 0) = some (.val (.int (e : Int))) := by
          have := v_ix1 (nD (QA.idxs A L v)) 0
          unfold nD at this ⊢
          rw [List.getElem?_map, h1] at this
          exact this
        have i1 : (A.map eD)[e]? = some (eD (u, v)) := by rw [List.getElem?_map, h2]; rfl
        have i2 : ixD (eD (u, v)) (.int 0) = some (.val (.int (u : Int))) := by unfold eD; exact v_ix2 _ 0
        generalize nD P = PD at a1 ⊢
        generalize nD E = ED at a2 ⊢
        generalize nD (QA.idxs A L v) = ID at re i0
        generalize nD L = LD at re ⊢
        generalize eD (u, v) = UD at i1 i2
        generalize A.map eD = AD at re i1 ⊢
        simp [rwB, a1, a2, re, i0, i1, i2]
theorem ev_within (m : Nat) {n : Nat} {A : QA.Ar} {L : List Nat} (hA : A.length ≤ 100) (hL : ∀ v ∈ L, v < n) (hn : n ≤ 10) (hne : L ≠ []) (hh : ∀ v ∈ L, v ∈ QA.heads A L) :
    ∃ R, QA.Rd A R ∧ callF tb (m + 1) "_round_within" [.bor (.lst (A.map eD)), .bor (.lst (nD L))] = .ok (.val (.tup (nD R))) := by
  obtain ⟨v, L', rfl⟩ : ∃ v L', L = v :: L' := by
    cases L with
    | nil => exact absurd rfl hne
    | cons v L' => exact ⟨v, L', rfl⟩
  obtain ⟨P, E, u, s5, w, hu, e⟩ := rw_while hA hL hn hh .emp n [] [] v .emp (by simp) (QA.Walk.start List.mem_cons_self)
  refine ⟨(E.drop (P.idxOf u)).reverse, w.done hu, ?_⟩
  have i0 : ixD (.lst (nD (v :: L'))) (.int 0) = some (.val (.int (v : Int))) := v_ix1 (nD (v :: L')) 0
  have hx := v_indexN hu
  have hd := v_drop (nD E) (z := ((P.idxOf u : Nat) : Int)) (k := P.idxOf u) rfl
  have e1 : nD ((E.drop (P.idxOf u)).reverse) = ((nD E).drop (P.idxOf u)).reverse := by simp [nD]
  rw [e1]
  have n0 : nD [] = [] := rfl
  rw [n0] at e
  unfold rwC rwB rwE at e
  rw [call_fn tb__round_within rfl]
  generalize nD (v :: L') = LD at i0 e ⊢
  generalize A.map eD = AD at e ⊢
  generalize nD P = PD at hx e
  generalize nD E = ED at hd e ⊢
  generalize P.idxOf u = j at hx hd ⊢
  simp [FI__round_within, B__round_within, i0, e, hx, hd, -List.map_reverse]
end W
end
section
set_option maxRecDepth 100000
/-! F10: k56, order_paper. -/
namespace W
open PySem L2 PyProof.Rows CI
theorem nD_inj {a b : List Nat} (h : nD a = nD b) : a = b := by
  unfold nD at h
  have := (List.map_inj_right (f := fun (k : Nat) => D.int (k : Int)) (fun x y e => by
    have := D.int.inj e
    omega)).mp h
  exact this
theorem truL (l : List Nat) : truD (.lst (nD l)) = some (!l.isEmpty) := by
  show some (!(nD l).isEmpty) = _
  cases l <;> rfl
abbrev opSt (G : D) (M : Str) (A : QA.Ar) (O L : List Nat) (s5 s6 : Sl) : En := [.val G, .val (.str M), .own (.lst (A.map eD)), .own (.lst (nD O)), .own (.lst (nD L)), s5, s6, .emp, .emp, .emp]
theorem op_heads (G : D) (M : Str) (A : QA.Ar) (O L : List Nat) (s5 s6 : Sl) (hl : A.length ≤ 100) :
    cLc (ciVarY 2) (.tup [(.nm 7), (.nm 8)]) (cTst (cBin oIn (cVar 7) (cVar 4))) (cFrz 8) [7, 8] [.val G, .val (.str M), .bor (.lst (A.map eD)), .own (.lst (nD O)), .own (.lst (nD L)), s5, s6, .emp, .emp, .emp] =
      .ok (.own (.lst (nD (QA.heads A L)))) [.val G, .val (.str M), .bor (.lst (A.map eD)), .own (.lst (nD O)), .own (.lst (nD L)), s5, s6, .emp, .emp, .emp] := by
  have hs : sizeLine = 16777216 := sizeLine_eq
  have lc := ev_lcG (β := Nat × Nat) (it := ciVarY 2) (t := .tup [(.nm 7), (.nm 8)]) (cond := (cTst (cBin oIn (cVar 7) (cVar 4)))) (elt := cFrz 8) (vs := [7, 8]) (xs := A)
    (ρ := [.val G, .val (.str M), .bor (.lst (A.map eD)), .own (.lst (nD O)), .own (.lst (nD L)), s5, s6, .emp, .emp, .emp]) (ρ1 := [.val G, .val (.str M), .bor (.lst (A.map eD)), .own (.lst (nD O)), .own (.lst (nD L)), s5, s6, .emp, .emp, .emp]) [.val G, .val (.str M), .bor (.lst (A.map eD)), .own (.lst (nD O)), .own (.lst (nD L)), s5, s6, .emp, .emp, .emp]
    eD (fun a => decide (a.1 ∈ L)) (fun a => .int (a.2 : Int)) (fun a => [.val G, .val (.str M), .bor (.lst (A.map eD)), .own (.lst (nD O)), .own (.lst (nD L)), s5, s6, .val (.int a.1), .val (.int a.2), .emp]) (by simp) rfl rfl rfl (by omega) fun a ha => by
      have hin := v_inN a.1 L
      generalize nD L = LD at hin ⊢
      refine ⟨rfl, rfl, by simp [hin], fun _ => by simp⟩
  rw [lc]
  have : ((A.filter fun a => decide (a.1 ∈ L)).map fun a => D.int (a.2 : Int)) = nD (QA.heads A L) := by simp [nD, QA.heads]
  rw [this]
theorem op_part (cond : Mn Bool) (c : Nat → Bool) (G : D) (M : Str) (S2 : Sl) (O L H : List Nat) (s6 : Sl) (hl : L.length ≤ 100)
    (hc : ∀ v ∈ L, cond [.val G, .val (.str M), S2, .own (.lst (nD O)), .bor (.lst (nD L)), .own (.lst (nD H)), s6, .emp, .emp, .val (.int (v : Int))] = .ok (c v) [.val G, .val (.str M), S2, .own (.lst (nD O)), .bor (.lst (nD L)), .own (.lst (nD H)), s6, .emp, .emp, .val (.int (v : Int))]) :
    cLc (ciVarY 4) (.nm 9) cond (cFrz 9) [9] [.val G, .val (.str M), S2, .own (.lst (nD O)), .bor (.lst (nD L)), .own (.lst (nD H)), s6, .emp, .emp, .emp] =
      .ok (.own (.lst (nD (L.filter c)))) [.val G, .val (.str M), S2, .own (.lst (nD O)), .bor (.lst (nD L)), .own (.lst (nD H)), s6, .emp, .emp, .emp] := by
  have hs : sizeLine = 16777216 := sizeLine_eq
  have lc := ev_lcG (β := Nat) (it := ciVarY 4) (t := .nm 9) (cond := cond) (elt := cFrz 9) (vs := [9]) (xs := L)
    (ρ := [.val G, .val (.str M), S2, .own (.lst (nD O)), .bor (.lst (nD L)), .own (.lst (nD H)), s6, .emp, .emp, .emp]) (ρ1 := [.val G, .val (.str M), S2, .own (.lst (nD O)), .bor (.lst (nD L)), .own (.lst (nD H)), s6, .emp, .emp, .emp]) [.val G, .val (.str M), S2, .own (.lst (nD O)), .bor (.lst (nD L)), .own (.lst (nD H)), s6, .emp, .emp, .emp]
    (fun v => D.int (v : Int)) c (fun v => .int (v : Int)) (fun v => [.val G, .val (.str M), S2, .own (.lst (nD O)), .bor (.lst (nD L)), .own (.lst (nD H)), s6, .emp, .emp, .val (.int (v : Int))]) (by simp; rfl) rfl rfl rfl (by omega) fun v hv => ⟨rfl, rfl, hc v hv, fun _ => by simp⟩
  rw [lc]
  rfl
noncomputable def opB (F : CI.Callee) : Mn Fl := (cSeq (cLock 2 (cSet 5 (cLc (ciVarY 2) (.tup [(.nm 7), (.nm 8)]) (cTst (cBin oIn (cVar 7) (cVar 4))) (cFrz 8) [7, 8])))
    (cSeq (cLock 4 (cSet 6 (cLc (ciVarY 4) (.nm 9) (cTst (cBin oNotIn (cVar 9) (cVar 5))) (cFrz 9) [9])))
    (cSeq (cIfS (cNot (cTr (cVar 6)))
    (cRet (cTup (cCons (cV (cCst (.str "round"))) (cCons (cV (cCall F ("_round_within" : Str) (cCons (cA (cVar 2)) (cCons (cA (cVar 4)) cNil)))) cNil))))
    cPass)
    (cSeq (cSet 3 (cBin oAdd (cVar 3) (cVar 6)))
    (cLock 4 (cSet 4 (cLc (ciVarY 4) (.nm 9) (cTst (cBin oIn (cVar 9) (cVar 5))) (cFrz 9) [9])))))))
theorem op_body (F : CI.Callee) (G : D) (M : Str) (A : QA.Ar) (O L : List Nat) (s5 s6 : Sl) (hl : A.length ≤ 100) (hL : L.length ≤ 100) (hO : O.length ≤ 100) :
    (QA.ready A L ≠ [] → opB F (opSt G M A O L s5 s6) = .ok .nx (opSt G M A (O ++ QA.ready A L) (QA.rest A L) (.own (.lst (nD (QA.heads A L)))) (.own (.lst (nD (QA.ready A L)))))) ∧
    (QA.ready A L = [] → ∀ R, F "_round_within" [.bor (.lst (A.map eD)), .bor (.lst (nD L))] = .ok (.val (.tup R)) → ∃ ρ', opB F (opSt G M A O L s5 s6) = .ok (.ret (.val (.tup [.str "round", .tup R]))) ρ') := by
  have hs : sizeLine = 16777216 := sizeLine_eq
  have hz : sz 2 = true := sz_ok (by omega)
  have e1 := op_heads G M A O L s5 s6 hl
  have e2 := op_part (cTst (cBin oNotIn (cVar 9) (cVar 5))) (fun v => !decide (v ∈ QA.heads A L)) G M (.own (.lst (A.map eD))) O L (QA.heads A L) s6 hL fun v hv => by
    have := v_notInN v (QA.heads A L)
    generalize nD (QA.heads A L) = HD at this ⊢
    simp [this]
  have e3 := op_part (cTst (cBin oIn (cVar 9) (cVar 5))) (fun v => decide (v ∈ QA.heads A L)) G M (.own (.lst (A.map eD))) (O ++ QA.ready A L) L (QA.heads A L) (.own (.lst (nD (QA.ready A L)))) hL fun v hv => by
    have := v_inN v (QA.heads A L)
    generalize nD (QA.heads A L) = HD at this ⊢
    simp [this]
  have t6 := truL (QA.ready A L)
  have hr : (L.filter fun v => !decide (v ∈ QA.heads A L)) = QA.ready A L := rfl
  have hr2 : (L.filter fun v => decide (v ∈ QA.heads A L)) = QA.rest A L := rfl
  rw [hr] at e2
  rw [hr2] at e3
  have hrl : (QA.ready A L).length ≤ L.length := List.length_filter_le _ _
  have had := v_addL (xs := nD O) (ys := nD (QA.ready A L)) (by simp [nD]; omega)
  have hap : nD O ++ nD (QA.ready A L) = nD (O ++ QA.ready A L) := by simp [nD]
  rw [hap] at had
  unfold opSt
  generalize nD (QA.heads A L) = HD at e1 e2 e3 ⊢
  refine ⟨fun h => ?_, fun h R hR => ?_⟩
  · have hb : (QA.ready A L).isEmpty = false := by cases hx : QA.ready A L with
      | nil => exact absurd hx h
      | cons _ _ => rfl
    rw [hb] at t6
    generalize nD (O ++ QA.ready A L) = OD at had e3 ⊢
    generalize nD (QA.ready A L) = RD at e2 e3 t6 had ⊢
    generalize nD (QA.rest A L) = SD at e3 ⊢
    generalize nD L = LD at e1 e2 e3 ⊢
    generalize nD O = PD at e1 e2 had ⊢
    generalize A.map eD = AD at e1 e2 e3 ⊢
    simp [opB, e1, e2, e3, t6, had]
  · have hb : (QA.ready A L).isEmpty = true := by rw [h]; rfl
    rw [hb] at t6
    generalize nD (QA.ready A L) = RD at e2 t6
    generalize nD L = LD at e1 e2 hR ⊢
    generalize nD O = PD at e1 e2 ⊢
    generalize A.map eD = AD at e1 e2 hR ⊢
    refine ⟨[.val G, .val (.str M), .own (.lst AD), .own (.lst PD), .own (.lst LD), .own (.lst HD), .own (.lst RD), .emp, .emp, .emp], ?_⟩
    simp [opB, e1, e2, t6, hR, hz]
theorem op_loop (m : Nat) {n : Nat} {A : QA.Ar} (G : D) (M : Str) (hA : QA.In n A) (hl : A.length ≤ 100) (hn : n ≤ 10) : ∀ (k : Nat) (O L : List Nat) (s5 s6 : Sl), L.length ≤ k → QA.Lay n A O L →
    (∃ O' t5 t6, O'.Perm (List.range n) ∧ QA.Bef A O' ∧ cWhile (cTr (cVar 4)) (opB (callF tb (m + 1))) (opSt G M A O L s5 s6) = .ok .nx (opSt G M A O' [] t5 t6)) ∨
    (∃ R ρ', QA.Rd A R ∧ cWhile (cTr (cVar 4)) (opB (callF tb (m + 1))) (opSt G M A O L s5 s6) = .ok (.ret (.val (.tup [.str "round", .tup (nD R)]))) ρ') := by
  have stop : ∀ (O : List Nat) (s5 s6 : Sl), QA.Lay n A O [] → ∃ O' t5 t6, O'.Perm (List.range n) ∧ QA.Bef A O' ∧ cWhile (cTr (cVar 4)) (opB (callF tb (m + 1))) (opSt G M A O [] s5 s6) = .ok .nx (opSt G M A O' [] t5 t6) := fun O s5 s6 h => by
    obtain ⟨h1, h2⟩ := h.done hA
    refine ⟨O, s5, s6, h1, h2, wh_F ?_⟩
    have := truL []
    simp [this]
  have lens : ∀ O L, QA.Lay n A O L → O.length ≤ n ∧ L.length ≤ n := fun O L h => by
    have := h.pm.length_eq
    rw [List.length_append, List.length_range] at this
    omega
  intro k
  induction k with
  | zero =>
    intro O L s5 s6 hk h
    have : L = [] := List.length_eq_zero_iff.mp (by omega)
    subst this
    exact .inl (stop O s5 s6 h)
  | succ k ih =>
    intro O L s5 s6 hk h
    obtain ⟨l1, l2⟩ := lens O L h
    by_cases hL : L = []
    · subst hL
      exact .inl (stop O s5 s6 h)
    · have hc : cTr (cVar 4) (opSt G M A O L s5 s6) = .ok true (opSt G M A O L s5 s6) := by
        have := truL L
        have hb : L.isEmpty = false := by cases L with
          | nil => exact absurd rfl hL
          | cons _ _ => rfl
        rw [hb] at this
        unfold opSt
        generalize nD L = LD at this ⊢
        simp [this]
      obtain ⟨b1, b2⟩ := op_body (callF tb (m + 1)) G M A O L s5 s6 hl (by omega) (by omega)
      by_cases hr : QA.ready A L = []
      · have hin : ∀ v ∈ L, v < n := fun v hv => List.mem_range.mp (h.pm.mem_iff.mp (List.mem_append_right _ hv))
        obtain ⟨R, g1, g2⟩ := ev_within m hl hin hn hL (QA.all_heads hr)
        obtain ⟨ρ', e⟩ := b2 hr _ g2
        exact .inr ⟨R, ρ', g1, wh_R hc e⟩
      · have hlt := QA.rest_lt hr
        have e := b1 hr
        rcases ih (O ++ QA.ready A L) (QA.rest A L) (.own (.lst (nD (QA.heads A L)))) (.own (.lst (nD (QA.ready A L)))) (by omega) (h.next hA) with ⟨O', t5, t6, q1, q2, q3⟩ | ⟨R, ρ', q1, q2⟩
        · exact .inl ⟨O', t5, t6, q1, q2, wh_T hc (.inl e) q3 rfl⟩
        · exact .inr ⟨R, ρ', q1, wh_T hc (.inl e) q2 rfl⟩
theorem ev_paper (m : Nat) {n : Nat} {E : List (Nat × Nat)} {t : Str} {cs : List Nat} (hE : QA.In n E) (h : cs.length = E.length) (hg : Sg cs) (hl : E.length ≤ 100) (hn : n ≤ 10) :
    (∃ O, O.Perm (List.range n) ∧ QA.Bef (arr E cs) O ∧ callF tb (m + 2) "order_paper" [.val (gO n E t), .val (.str (mkS cs))] = .ok (.val (.tup [.str "order", .tup (nD O)]))) ∨
    (∃ R, QA.Rd (arr E cs) R ∧ callF tb (m + 2) "order_paper" [.val (gO n E t), .val (.str (mkS cs))] = .ok (.val (.tup [.str "round", .tup (nD R)]))) := by
  have hs : sizeLine = 16777216 := sizeLine_eq
  have hz : sz 2 = true := sz_ok (by omega)
  have c1 := (ev_check m cs E.length (by omega)).1 (goodS_of h hg)
  have c2 := ev_arrows m (n := n) (t := t) h hg hl
  have f1 := g_size n E t
  have f2 := g_nodes n E t
  have h2 := v_lrg (n := n) (by omega)
  rw [rg_nD] at h2
  have loop := op_loop m (gO n E t) (mkS cs) (arr_in cs hE) (by rw [arr_len h]; exact hl) hn n [] (List.range n) .emp .emp (by simp) (QA.Lay.start n _)
  rw [call_fn tb_order_paper rfl]
  unfold opSt at loop
  generalize gO n E t = G at c1 c2 f1 f2 loop ⊢
  generalize arr E cs = A at c2 loop ⊢
  generalize mkS cs = M at c1 c2 loop ⊢
  have n0 : nD [] = [] := rfl
  rw [n0] at loop
  rcases loop with ⟨O', t5, t6, q1, q2, q3⟩ | ⟨R, ρ', q1, q3⟩
  · refine .inl ⟨O', q1, q2, ?_⟩
    unfold opB at q3
    generalize A.map eD = AD at c2 q3
    generalize nD O' = OD at q3 ⊢
    generalize nD (List.range n) = ND at h2 q3
    simp [FI_order_paper, B_order_paper, c1, c2, f1, f2, h2, q3, hz]
  · refine .inr ⟨R, q1, ?_⟩
    unfold opB at q3
    generalize A.map eD = AD at c2 q3
    generalize nD R = RD at q3 ⊢
    generalize nD (List.range n) = ND at h2 q3
    simp [FI_order_paper, B_order_paper, c1, c2, f1, f2, h2, q3]
end W
end
section
set_option maxRecDepth 100000
/-! F11: k56, rounds judged by the law. -/
namespace W
open PySem L2 PyProof.Rows CI
theorem forL_rgC {t : Tg} {body : Mn Fl} (k : Nat) (I : Nat → En → Prop) (q : Nat → Bool) (r : Rv) (hs : ∀ i ρ, i < k → I i ρ → ∃ ρ1, t (.int (i : Int)) ρ = .ok () ρ1 ∧ (q i = true → ∃ ρ2, body ρ1 = .ok .nx ρ2 ∧ I (i + 1) ρ2) ∧ (q i = false → ∃ ρ2, body ρ1 = .ok (.ret r) ρ2)) :
    ∀ (j s : Nat) (ρ : En), s + j = k → I s ρ → ((∀ i, s ≤ i → i < k → q i = true) → ∃ ρ', forL t body ((List.range' s j).map fun (i : Nat) => D.int (i : Int)) ρ = .ok .nx ρ' ∧ I k ρ') ∧
      ((∃ i, s ≤ i ∧ i < k ∧ q i = false) → ∃ ρ', forL t body ((List.range' s j).map fun (i : Nat) => D.int (i : Int)) ρ = .ok (.ret r) ρ') := by
  intro j
  induction j with
  | zero =>
    intro s ρ hk h
    have : s = k := by omega
    subst this
    exact ⟨fun _ => ⟨ρ, rfl, h⟩, fun ⟨i, h1, h2, _⟩ => by omega⟩
  | succ j ih =>
    intro s ρ hk h
    obtain ⟨ρ1, h1, h2, h3⟩ := hs s ρ (by omega) h
    rw [List.range'_succ, List.map_cons]
    cases hq : q s with
    | true =>
      obtain ⟨ρ2, e, h4⟩ := h2 hq
      rw [forL_cnx h1 (.inl e)]
      obtain ⟨k1, k2⟩ := ih (s + 1) ρ2 (by omega) h4
      refine ⟨fun ha => k1 fun i hi => ha i (by omega), fun ⟨i, g1, g2, g3⟩ => k2 ⟨i, ?_, g2, g3⟩⟩
      rcases Nat.lt_or_ge s i with w | w
      · exact w
      · have : i = s := by omega
        subst this
        rw [hq] at g3; cases g3
    | false =>
      obtain ⟨ρ2, e⟩ := h3 hq
      rw [forL_cret h1 e]
      exact ⟨fun ha => absurd (ha s (Nat.le_refl _) (by omega)) (by rw [hq]; simp), fun _ => ⟨ρ2, rfl⟩⟩
theorem rg_r' (k : Nat) : rgD 0 k = (List.range' 0 k).map fun (i : Nat) => D.int (i : Int) := by rw [rg_nD, nD, List.range_eq_range']
noncomputable def r1B : Mn Fl := (cIfS (cNot (cTst (cChain oLe oLt (cCst (.int 0)) (cBin ixD (cVar 1) (cVar 3)) (cBlt (uD gLen) (cCons (cA (cVar 0)) cNil)))))
    (cRet (cCst (.bl false)))
    cPass)
noncomputable def r2B : Mn Fl := (cSeq (cSet 4 (cBin ixD (cVar 1) (cBin oMod (cBlt (uD gInt) (cCons (cA (cBin oAdd (cVar 3) (cCst (.int 1)))) cNil)) (cBlt (uD gLen) (cCons (cA (cVar 1)) cNil)))))
    (cSeq (cIfS (cTst (cBin oNe (cBin ixD (cBin ixD (cVar 0) (cBin ixD (cVar 1) (cVar 3))) (cCst (.int 1))) (cBin ixD (cBin ixD (cVar 0) (cVar 4)) (cCst (.int 0)))))
    (cRet (cCst (.bl false)))
    cPass)
    (cSeq (cIfS (cTst (cBin oIn (cBin ixD (cBin ixD (cVar 0) (cBin ixD (cVar 1) (cVar 3))) (cCst (.int 0))) (cVar 2)))
    (cRet (cCst (.bl false)))
    cPass)
    (cApp 2 (cBin ixD (cBin ixD (cVar 0) (cBin ixD (cVar 1) (cVar 3))) (cCst (.int 0)))))))
theorem tl_at (A : QA.Ar) {R : List Nat} {i e : Nat} (h : R[i]? = some e) : (QA.tl A R).getD i 0 = (A.getD e (0, 0)).1 := by
  unfold QA.tl
  rw [List.getD_eq_getElem?_getD, List.getElem?_map, h]; rfl
theorem hd_at (A : QA.Ar) {R : List Nat} {i e : Nat} (h : R[i]? = some e) : (QA.hd A R).getD i 0 = (A.getD e (0, 0)).2 := by
  unfold QA.hd
  rw [List.getD_eq_getElem?_getD, List.getElem?_map, h]; rfl
theorem tl_take (A : QA.Ar) {R : List Nat} {i e : Nat} (h : R[i]? = some e) : (QA.tl A R).take (i + 1) = (QA.tl A R).take i ++ [(A.getD e (0, 0)).1] := by
  rw [List.take_add_one]
  have : (QA.tl A R)[i]? = some (A.getD e (0, 0)).1 := by unfold QA.tl; rw [List.getElem?_map, h]; rfl
  rw [this]; rfl
theorem ix_e {A : QA.Ar} {e : Nat} (h : e < A.length) : ixD (.lst (A.map eD)) (.int (e : Int)) = some (.val (eD (A.getD e (0, 0)))) := by
  rw [v_ix1, List.getElem?_map, List.getElem?_eq_getElem h, List.getD_eq_getElem?_getD, List.getElem?_eq_getElem h]; rfl
theorem ix_e0 (p : Nat × Nat) : ixD (eD p) (.int 0) = some (.val (.int (p.1 : Int))) := v_ix2 [D.int p.1, D.int p.2] 0
theorem ix_e1 (p : Nat × Nat) : ixD (eD p) (.int 1) = some (.val (.int (p.2 : Int))) := v_ix2 [D.int p.1, D.int p.2] 1
theorem ix_R {R : List Nat} {i e : Nat} (h : R[i]? = some e) : ixD (.lst (nD R)) (.int (i : Int)) = some (.val (.int (e : Int))) := by
  rw [v_ix1]; unfold nD; rw [List.getElem?_map, h]; rfl
theorem r1_loop {A : QA.Ar} {R : List Nat} (hR : ∀ e ∈ R, e < A.length) (S1 S2 : Sl) (hS : S1 = .val (.lst (nD R)) ∨ S1 = .bor (.lst (nD R))) : ∃ s3, forL (tNm 3) r1B (rgD 0 R.length) [.bor (.lst (A.map eD)), S1, S2, .emp, .emp] = .ok .nx [.bor (.lst (A.map eD)), S1, S2, s3, .emp] := by
  obtain ⟨ρ', e, s3, e2⟩ := forL_rg (t := tNm 3) (body := r1B) R.length (fun i ρ => ∃ s3, ρ = [.bor (.lst (A.map eD)), S1, S2, s3, .emp]) (ρ := [.bor (.lst (A.map eD)), S1, S2, .emp, .emp]) ⟨.emp, rfl⟩ fun i ρ hi ⟨s3, e⟩ => by
    subst e
    obtain ⟨a, ha⟩ : ∃ a, R[i]? = some a := ⟨_, List.getElem?_eq_getElem hi⟩
    have hlt := hR a (List.mem_of_getElem? ha)
    have x := ix_R ha
    have hlen : (A.map eD).length = A.length := by simp
    generalize nD R = RD at x hS
    generalize A.map eD = AD at hlen ⊢
    refine ⟨_, [.bor (.lst AD), S1, S2, .val (.int i), .emp], rfl, ?_, _, rfl⟩
    have c1 : (0 : Int) ≤ (a : Int) := by omega
    have c2 : (a : Int) < (A.length : Int) := by omega
    rcases hS with rfl | rfl <;> simp [r1B, cChain, x, hlen, hlt, blR]
  exact ⟨s3, by rw [e, e2]⟩
theorem r2_loop {A : QA.Ar} {R : List Nat} (hR : ∀ e ∈ R, e < A.length) (hl : R.length ≤ 1000) (S1 s3 : Sl) (hS : S1 = .val (.lst (nD R)) ∨ S1 = .bor (.lst (nD R))) :
    ((∀ i, i < R.length → QA.rdQ A R i = true) → ∃ ρ', forL (tNm 3) r2B (rgD 0 R.length) [.bor (.lst (A.map eD)), S1, .own (.lst []), s3, .emp] = .ok .nx ρ' ∧ ∃ S2 s3 s4, ρ' = [.bor (.lst (A.map eD)), S1, S2, s3, s4]) ∧
    ((∃ i, i < R.length ∧ QA.rdQ A R i = false) → ∃ ρ', forL (tNm 3) r2B (rgD 0 R.length) [.bor (.lst (A.map eD)), S1, .own (.lst []), s3, .emp] = .ok (.ret (.val (.bl false))) ρ') := by
  have hs : sizeLine = 16777216 := sizeLine_eq
  obtain ⟨k1, k2⟩ := forL_rgC (t := tNm 3) (body := r2B) R.length (fun i ρ => ∃ s3 s4, ρ = [.bor (.lst (A.map eD)), S1, .own (.lst (nD ((QA.tl A R).take i))), s3, s4]) (QA.rdQ A R) (.val (.bl false)) (fun i ρ hi ⟨s3, s4, e⟩ => by
    subst e
    obtain ⟨a, ha⟩ : ∃ a, R[i]? = some a := ⟨_, List.getElem?_eq_getElem hi⟩
    have hp : (i + 1) % R.length < R.length := Nat.mod_lt _ (by omega)
    obtain ⟨b, hb⟩ : ∃ b, R[(i + 1) % R.length]? = some b := ⟨_, List.getElem?_eq_getElem hp⟩
    have f1 : ((i : Int) + 1).fmod (R.length : Int) = (((i + 1) % R.length : Nat) : Int) := fmodN (i + 1) R.length
    have g1 := tl_at A ha
    have g2 := hd_at A ha
    have g3 := tl_at A hb
    have htk := tl_take A ha
    have xa := ix_R ha
    have xb := ix_R hb
    have ea := ix_e (hR a (List.mem_of_getElem? ha))
    have eb := ix_e (hR b (List.mem_of_getElem? hb))
    have a0 := ix_e0 (A.getD a (0, 0))
    have a1 := ix_e1 (A.getD a (0, 0))
    have b0 := ix_e0 (A.getD b (0, 0))
    have hin := v_inN (A.getD a (0, 0)).1 ((QA.tl A R).take i)
    have hlenD : (nD R).length = R.length := by simp [nD]
    have hR0 : ¬ R.length = 0 := by omega
    have hRz : ¬ R = [] := fun e => hR0 (by rw [e]; rfl)
    have htl : ((QA.tl A R).take i).length ≤ 1000 := by rw [List.length_take, QA.tl_len]; omega
    have hap := ev_appD (d := .int ((A.getD a (0, 0)).1 : Int)) (xs := nD ((QA.tl A R).take i)) (by simp [nD]; omega)
    have enew : nD ((QA.tl A R).take (i + 1)) = nD ((QA.tl A R).take i) ++ [.int ((A.getD a (0, 0)).1 : Int)] := by rw [htk]; simp [nD]
    have hq : QA.rdQ A R i = (decide ((A.getD a (0, 0)).2 = (A.getD b (0, 0)).1) && !decide ((A.getD a (0, 0)).1 ∈ (QA.tl A R).take i)) := by unfold QA.rdQ; rw [g1, g2, g3]
    rw [hq, enew]
    generalize (QA.tl A R).take i = T at htl hin hap ⊢
    generalize nD T = TD at hin hap ⊢
    generalize (i + 1) % R.length = p at hp f1 xb
    generalize A.getD a (0, 0) = u at ea a0 a1 hin hap ⊢
    generalize A.getD b (0, 0) = w at eb b0 ⊢
    generalize eD u = UD at ea a0 a1
    generalize eD w = WD at eb b0
    generalize nD R = RD at xa xb hlenD hS
    generalize A.map eD = AD at ea eb ⊢
    refine ⟨[.bor (.lst AD), S1, .own (.lst TD), .val (.int i), s4], rfl, fun h => ?_, fun h => ?_⟩
    · rw [Bool.and_eq_true, decide_eq_true_eq, Bool.not_eq_true', decide_eq_false_iff_not] at h
      obtain ⟨h1, h2⟩ := h
      rw [decide_eq_false h2] at hin
      refine ⟨[.bor (.lst AD), S1, .own (.lst (TD ++ [.int (u.1 : Int)])), .val (.int i), .val (.int b)], ?_, _, _, rfl⟩
      rcases hS with rfl | rfl <;> simp [-Int.natCast_ediv, -Int.natCast_emod, -Int.natCast_add, r2B, hlenD, f1, hRz, xa, xb, ea, eb, a0, a1, b0, h1, hin, hap]
    · refine ⟨[.bor (.lst AD), S1, .own (.lst TD), .val (.int i), .val (.int b)], ?_⟩
      by_cases h1 : u.2 = w.1
      · rw [decide_eq_true h1, Bool.true_and, Bool.not_eq_false', decide_eq_true_eq] at h
        rw [decide_eq_true h] at hin
        rcases hS with rfl | rfl <;> simp [-Int.natCast_ediv, -Int.natCast_emod, -Int.natCast_add, r2B, hlenD, f1, hRz, xa, xb, ea, eb, a0, a1, b0, h1, hin]
      · have h1' : ¬ ((u.2 : Nat) : Int) = ((w.1 : Nat) : Int) := by omega
        rcases hS with rfl | rfl <;> simp [-Int.natCast_ediv, -Int.natCast_emod, -Int.natCast_add, r2B, hlenD, f1, hRz, xa, xb, ea, eb, a0, a1, b0, h1, h1']) R.length 0 [.bor (.lst (A.map eD)), S1, .own (.lst []), s3, .emp] (by omega) ⟨s3, .emp, rfl⟩
  rw [rg_r']
  refine ⟨fun h => ?_, fun ⟨i, h1, h2⟩ => k2 ⟨i, Nat.zero_le _, h1, h2⟩⟩
  obtain ⟨ρ', e, t3, t4, e2⟩ := k1 fun i _ hi => h i hi
  exact ⟨ρ', e, _, t3, t4, e2⟩
theorem ev_isR (m : Nat) {A : QA.Ar} {R : List Nat} (hR : ∀ e ∈ R, e < A.length) (hl : R.length ≤ 1000) (q : Rv) (hq : q = .val (.lst (nD R)) ∨ q = .bor (.lst (nD R))) :
    callF tb (m + 1) "_law_is_round" [.bor (.lst (A.map eD)), q] = .ok (.val (.bl (QA.rdB A R))) := by
  have h2 : rg1 (.int (R.length : Int)) = some (rgD 0 R.length) := rg1_nat (by omega)
  have hlenD : (nD R).length = R.length := by simp [nD]
  have key : ∀ S1 : Sl, S1 = .val (.lst (nD R)) ∨ S1 = .bor (.lst (nD R)) → resOf (B__law_is_round (callF tb m) [.bor (.lst (A.map eD)), S1, .emp, .emp, .emp]) = .ok (.val (.bl (QA.rdB A R))) := fun S1 hS => by
    obtain ⟨s3, e1⟩ := r1_loop hR S1 (.own (.lst [])) hS
    obtain ⟨k1, k2⟩ := r2_loop hR hl S1 s3 hS
    unfold r1B at e1
    unfold r2B at k1 k2
    by_cases hall : ∀ i, i < R.length → QA.rdQ A R i = true
    · obtain ⟨ρ', e, S2, t3, t4, e2⟩ := k1 hall
      subst e2
      obtain ⟨g1, g2⟩ := (QA.rdq_all A).mp hall
      have hv : QA.rdB A R = !R.isEmpty := by unfold QA.rdB; rw [decide_eq_true g1, decide_eq_true g2]; simp
      have hfin : decide ((0 : Int) < (R.length : Int)) = !R.isEmpty := by cases R <;> simp <;> omega
      rw [hv, ← hfin]
      generalize nD R = RD at hlenD hS
      generalize A.map eD = AD at e1 e ⊢
      rcases hS with rfl | rfl <;> simp [B__law_is_round, hlenD, h2, e1, e]
    · obtain ⟨i, hi⟩ := Classical.not_forall.mp hall
      obtain ⟨hi, hq⟩ := Classical.not_imp.mp hi
      have hq : QA.rdQ A R i = false := by simpa using hq
      obtain ⟨ρ', e⟩ := k2 ⟨i, hi, hq⟩
      have hv : QA.rdB A R = false := by
        unfold QA.rdB
        have : ¬ (QA.hd A R = (QA.tl A R).drop 1 ++ (QA.tl A R).take 1 ∧ (QA.tl A R).Nodup) := fun h => hall ((QA.rdq_all A).mpr h)
        by_cases g1 : QA.hd A R = (QA.tl A R).drop 1 ++ (QA.tl A R).take 1
        · have g2 : ¬ (QA.tl A R).Nodup := fun g2 => this ⟨g1, g2⟩
          rw [decide_eq_false g2]; simp
        · rw [decide_eq_false g1]; simp
      rw [hv]
      generalize nD R = RD at hlenD hS
      generalize A.map eD = AD at e1 e ⊢
      rcases hS with rfl | rfl <;> simp [B__law_is_round, hlenD, h2, e1, e]
  generalize nD R = RD at key hq
  generalize A.map eD = AD at key ⊢
  generalize QA.rdB A R = bb at key ⊢
  rcases hq with rfl | rfl
  · rw [call_fn tb__law_is_round rfl]; simp only [FI__law_is_round, ev_start]; exact key _ (.inl rfl)
  · rw [call_fn tb__law_is_round rfl]; simp only [FI__law_is_round, ev_start]; exact key _ (.inr rfl)
end W
end
section
set_option maxRecDepth 100000
/-! F12: k56, shows_round. -/
namespace W
open PySem L2 PyProof.Rows CI
/-! len(set(ns)) -/
theorem fm_len (f : Nat → Int) : ∀ i, (firstMet f i).length = i → firstMet f i = (List.range i).map f ∧ ((List.range i).map f).Nodup
  | 0, _ => ⟨rfl, by simp⟩
  | i + 1, h => by
    rw [firstMet_succ] at h ⊢
    unfold step_dedup at h ⊢
    have hle := firstMet_length_le f i
    by_cases hc : (firstMet f i).any (· == f i) = true
    · rw [if_pos hc] at h
      omega
    · rw [if_neg hc] at h ⊢
      rw [List.length_append] at h
      simp at h
      obtain ⟨h1, h2⟩ := fm_len f i h
      rw [List.range_succ, List.map_append, h1]
      refine ⟨rfl, ?_⟩
      rw [List.nodup_append]
      refine ⟨h2, by simp, fun a ha b hb e => ?_⟩
      simp at hb
      subst hb
      subst e
      refine hc ?_
      rw [h1, List.any_eq_true]
      exact ⟨_, ha, by simp⟩
theorem fm_iff (ns : List Int) : decide ((firstMet (fun i => ns.getD i 0) ns.length).length = ns.length) = decide ns.Nodup := by
  have e : (List.range ns.length).map (fun i => ns.getD i 0) = ns := by
    apply List.ext_getElem?
    intro i
    rw [List.getElem?_map]
    by_cases h : i < ns.length
    · rw [List.getElem?_range h, List.getElem?_eq_getElem h]
      simp [List.getD_eq_getElem?_getD, List.getElem?_eq_getElem h]
    · rw [List.getElem?_eq_none (by simp; omega), List.getElem?_eq_none (by omega)]; rfl
  rw [Bool.eq_iff_iff, decide_eq_true_eq, decide_eq_true_eq]
  constructor
  · intro h
    have := (fm_len _ _ h).2
    rw [e] at this
    exact this
  · intro h
    rw [L2.firstMet_nodup ns h ns.length (Nat.le_refl _), List.take_length]
theorem v_lenSet {l : List Nat} (h : l.length < 64) : ∃ k : Nat, gLenSet (.lst (nD l)) = some (.val (.int (k : Int))) ∧ decide (k = l.length) = decide l.Nodup := by
  refine ⟨(firstMet (fun i => (nZ l).getD i 0) (nZ l).length).length, ?_, ?_⟩
  · rw [nD_z]
    unfold gLenSet
    simp only [lstD, Option.bind_some, intsD_map]
    have : (nZ l).length < 64 := by simpa [nZ] using h
    rw [if_pos this]; rfl
  · have e := fm_iff (nZ l)
    have e1 : (nZ l).length = l.length := by simp [nZ]
    have e2 : decide (nZ l).Nodup = decide l.Nodup := by
      rw [Bool.eq_iff_iff, decide_eq_true_eq, decide_eq_true_eq]
      refine ⟨fun h => ?_, nZ_nodup⟩
      unfold nZ at h
      rw [List.Nodup, List.pairwise_map] at h
      exact h.imp fun {a b} hab e => hab (by omega)
    rw [e1] at e ⊢
    rw [e, e2]
theorem v_eqN (a b : List Nat) : oEq (.lst (nD a)) (.lst (nD b)) = some (.val (.bl (decide (a = b)))) := by
  rw [nD_z, nD_z, v_eqL]
  congr 3
  rw [Bool.eq_iff_iff, decide_eq_true_eq, decide_eq_true_eq]
  refine ⟨fun h => ?_, fun h => by rw [h]⟩
  unfold nZ at h
  exact (List.map_inj_right (f := fun (k : Nat) => (k : Int)) (fun x y e => by omega)).mp h
noncomputable def srB : Mn Fl := (cIfS (cNot (cTst (cChain oLe oLt (cCst (.int 0)) (cVar 3) (cFld (["Graph"] : List Str) ("size" : Str) (cVar 0)))))
    (cRseF ("BadElement" : Str) ("element" : Str) gKeep (cCons (cA (cFrz 3)) cNil))
    cPass)
abbrev xEl (x : Int) : Exc := ("BadElement", [("element", .int x)])
theorem sr_one (G : D) (size : Nat) (hG : fldD ["Graph"] "size" G = some (.int size)) (S1 S2 S4 S5 S6 : Sl) (x : Int) : (0 ≤ x ∧ x < size → srB [.val G, S1, S2, .val (.int x), S4, S5, S6] = .ok .nx [.val G, S1, S2, .val (.int x), S4, S5, S6]) ∧
    (¬ (0 ≤ x ∧ x < size) → srB [.val G, S1, S2, .val (.int x), S4, S5, S6] = .exc (xEl x) [.val G, S1, S2, .val (.int x), S4, S5, S6]) := by
  constructor
  · rintro ⟨h1, h2⟩
    simp [srB, cChain, hG, h1, h2, blR]
  · intro h
    by_cases h1 : 0 ≤ x
    · have h2 : ¬ x < size := fun h2 => h ⟨h1, h2⟩
      simp [srB, cChain, hG, h1, h2, blR]
    · simp [srB, cChain, hG, h1, blR]
theorem sr_ok (G : D) (size : Nat) (hG : fldD ["Graph"] "size" G = some (.int size)) (S1 S2 S4 S5 S6 : Sl) : ∀ (ds : List Int) (s3 : Sl), (∀ x ∈ ds, 0 ≤ x ∧ x < size) → okOwn [s3] [0] = true → ∃ s3', okOwn [s3'] [0] = true ∧ forL (tNm 3) srB (ds.map D.int) [.val G, S1, S2, s3, S4, S5, S6] = .ok .nx [.val G, S1, S2, s3', S4, S5, S6]
  | [], s3, _, h => ⟨s3, h, rfl⟩
  | x :: ds, s3, hd, h => by
    have e := (sr_one G size hG S1 S2 S4 S5 S6 x).1 (hd x List.mem_cons_self)
    rw [List.map_cons, forL_cnx (t := tNm 3) (body := srB) (ρ := [.val G, S1, S2, s3, S4, S5, S6]) rfl (.inl e)]
    exact sr_ok G size hG S1 S2 S4 S5 S6 ds _ (fun y hy => hd y (List.mem_cons_of_mem _ hy)) rfl
theorem sr_bad (G : D) (size : Nat) (hG : fldD ["Graph"] "size" G = some (.int size)) (S1 S2 S4 S5 S6 : Sl) (x : Int) (hx : ¬ (0 ≤ x ∧ x < size)) (post : List Int) : ∀ (ds : List Int) (s3 : Sl), (∀ x ∈ ds, 0 ≤ x ∧ x < size) → ∃ ρ', forL (tNm 3) srB ((ds ++ x :: post).map D.int) [.val G, S1, S2, s3, S4, S5, S6] = .exc (xEl x) ρ'
  | [], s3, _ => by
    have e := (sr_one G size hG S1 S2 S4 S5 S6 x).2 hx
    exact ⟨_, forL_cexc (t := tNm 3) (body := srB) (ρ := [.val G, S1, S2, s3, S4, S5, S6]) rfl e⟩
  | y :: ds, s3, hd => by
    have e := (sr_one G size hG S1 S2 S4 S5 S6 y).1 (hd y List.mem_cons_self)
    rw [List.cons_append, List.map_cons, forL_cnx (t := tNm 3) (body := srB) (ρ := [.val G, S1, S2, s3, S4, S5, S6]) rfl (.inl e)]
    exact sr_bad G size hG S1 S2 S4 S5 S6 x hx post ds _ fun y hy => hd y (List.mem_cons_of_mem _ hy)
theorem lk_7 {row : List Int} {q : Rv} {S2 : Sl} (hq : RowA row q S2) {α : Type} (c : Mn α) (S0 S1 s3 s4 s5 s6 : Sl) : cLock 2 c [S0, S1, S2, s3, s4, s5, s6] = c [S0, S1, S2, s3, s4, s5, s6] := by cases hq <;> rfl
theorem it_7 {row : List Int} {q : Rv} {S2 : Sl} (hq : RowA row q S2) (S0 S1 s3 s4 s5 s6 : Sl) : ciVarY 2 [S0, S1, S2, s3, s4, s5, s6] = .ok (row.map D.int) [S0, S1, S2, s3, s4, s5, s6] := by cases hq <;> simp
theorem len_7 {row : List Int} {q : Rv} {S2 : Sl} (hq : RowA row q S2) (S0 S1 s3 s4 s5 s6 : Sl) : cBlt (uD gLen) (cCons (cA (cVar 2)) cNil) [S0, S1, S2, s3, s4, s5, s6] = .ok (.val (.int row.length)) [S0, S1, S2, s3, s4, s5, s6] := by cases hq <;> simp
theorem sr_comp {A : QA.Ar} {R : List Nat} (hR : ∀ e ∈ R, e < A.length) {q : Rv} {S2 : Sl} (hq : RowA (nZ R) q S2) (hl : R.length ≤ 1000) (S0 S1 s3 s5 s6 : Sl) (h3 : okOwn [s3] [0] = true) (j : Int) (f : Nat × Nat → Nat) (hj : ∀ p, ixD (eD p) (.int j) = some (.val (.int (f p : Int)))) :
    cLc (ciVarY 2) (.nm 3) cYes (cBin ixD (cBin ixD (cVar 4) (cVar 3)) (cCst (.int j))) [3] [S0, S1, S2, s3, .own (.lst (A.map eD)), s5, s6] = .ok (.own (.lst (nD (R.map fun e => f (A.getD e (0, 0)))))) [S0, S1, S2, s3, .own (.lst (A.map eD)), s5, s6] := by
  have hs : sizeLine = 16777216 := sizeLine_eq
  have it := it_7 hq S0 S1 s3 (.own (.lst (A.map eD))) s5 s6
  rw [← nD_z] at it
  have lc := ev_lcN (β := Nat) (i := 3) (it := ciVarY 2) (elt := cBin ixD (cBin ixD (cVar 4) (cVar 3)) (cCst (.int j))) (xs := R) (s := s3)
    (ρ := [S0, S1, S2, s3, .own (.lst (A.map eD)), s5, s6]) (ρ1 := [S0, S1, S2, s3, .own (.lst (A.map eD)), s5, s6]) (fun e => D.int (e : Int)) (fun e => D.int (f (A.getD e (0, 0)) : Int)) it rfl (by simpa [okOwn] using h3) (by omega) fun e he => by
      have ea := ix_e (hR e he)
      have hj := hj (A.getD e (0, 0))
      generalize A.getD e (0, 0) = u at ea hj ⊢
      generalize eD u = UD at ea hj
      generalize A.map eD = AD at ea ⊢
      generalize f u = z at hj ⊢
      simp [ea, hj]
  rw [lc]
  simp [nD]
theorem ev_showsR (m : Nat) {n : Nat} {E : List (Nat × Nat)} {t : Str} {cs : List Nat} (hE : QA.In n E) (h : cs.length = E.length) (hg : Sg cs) (hl : E.length ≤ 100) {R : List Nat} (hR : ∀ e ∈ R, e < E.length) (hrl : R.length < 64) {q : Rv} {S2 : Sl} (hq : RowA (nZ R) q S2) :
    callF tb (m + 2) "shows_round" [.val (gO n E t), .val (.str (mkS cs)), q] = .ok (.val (.bl (QA.rdB (arr E cs) R))) := by
  have hs : sizeLine = 16777216 := sizeLine_eq
  have c1 := (ev_check m cs E.length (by omega)).1 (goodS_of h hg)
  have c2 := ev_arrows m (n := n) (t := t) h hg hl
  have f1 := g_size n E t
  have hA := arr_in cs hE
  have hAl := arr_len h
  rw [call_fn tb_shows_round rfl]
  simp only [FI_shows_round, ev_start, List.map_cons, List.map_nil, hq.sl]
  generalize gO n E t = G at c1 c2 f1 ⊢
  have hR' : ∀ e ∈ R, e < (arr E cs).length := fun e he => by rw [hAl]; exact hR e he
  obtain ⟨s3, h3, e1⟩ := sr_ok G E.length f1 (.val (.str (mkS cs))) S2 .emp .emp .emp (nZ R) .emp (fun x hx => by
    obtain ⟨k, hk, rfl⟩ := List.mem_map.mp hx
    have := hR k hk
    omega) rfl
  generalize arr E cs = A at c2 hA hR' hAl ⊢
  generalize mkS cs = M at c1 c2 e1 ⊢
  have tc := sr_comp hR' hq (by omega) (.val G) (.val (.str M)) s3 .emp .emp h3 0 (·.1) ix_e0
  have hc := fun s5 => sr_comp hR' hq (by omega) (.val G) (.val (.str M)) s3 s5 .emp h3 1 (·.2) ix_e1
  have etl : (R.map fun e => (A.getD e (0, 0)).1) = QA.tl A R := rfl
  have ehd : (R.map fun e => (A.getD e (0, 0)).2) = QA.hd A R := rfl
  rw [etl] at tc
  rw [ehd] at hc
  have it := fun s3 s4 s5 s6 => it_7 hq (.val G) (.val (.str M)) s3 s4 s5 s6
  have ln := fun s3 s4 s5 s6 => len_7 hq (.val G) (.val (.str M)) s3 s4 s5 s6
  have lk := @lk_7 (nZ R) q S2 hq
  have hlz : (nZ R).length = R.length := by simp [nZ]
  rw [hlz] at ln
  unfold srB at e1
  obtain ⟨k, ls1, ls2⟩ := v_lenSet (l := QA.tl A R) (by rw [QA.tl_len]; omega)
  have hdr := v_drop (nD (QA.tl A R)) (z := 1) (k := 1) rfl
  have htk := v_take (nD (QA.tl A R)) (z := 1) (k := 1) rfl
  have hadd := v_addL (xs := (nD (QA.tl A R)).drop 1) (ys := (nD (QA.tl A R)).take 1) (by simp [nD, QA.tl_len]; omega)
  have hrot : (nD (QA.tl A R)).drop 1 ++ (nD (QA.tl A R)).take 1 = nD ((QA.tl A R).drop 1 ++ (QA.tl A R).take 1) := by simp [nD]
  rw [hrot] at hadd
  have heq := v_eqN (QA.hd A R) ((QA.tl A R).drop 1 ++ (QA.tl A R).take 1)
  have hlt : (nD (QA.tl A R)).length = R.length := by simp [nD, QA.tl_len]
  have hk : decide (k = R.length) = decide (QA.tl A R).Nodup := by rw [← ls2, QA.tl_len]
  unfold QA.rdB
  generalize (nZ R).map D.int = RZ at e1 it
  by_cases hR0 : R = []
  · subst hR0
    generalize A.map eD = AD at c2 tc hc ⊢
    simp [B_shows_round, c1, f1, lk, it, e1, ln, -ev_blt]
  · have hl0 : ¬ R.length = 0 := fun e => hR0 (List.length_eq_zero_iff.mp e)
    have hie : R.isEmpty = false := by cases R with
      | nil => exact absurd rfl hR0
      | cons _ _ => rfl
    have hl0z : ¬ (R.length : Int) = 0 := by omega
    rw [hie]
    generalize nD ((QA.tl A R).drop 1 ++ (QA.tl A R).take 1) = ROT at hadd heq
    generalize nD (QA.tl A R) = TD at tc hc ls1 hdr htk hadd hlt
    generalize nD (QA.hd A R) = HD at hc heq
    generalize TD.drop 1 = T1 at hdr hadd
    generalize TD.take 1 = T2 at htk hadd
    have hkz : decide ((k : Int) = (R.length : Int)) = decide (QA.tl A R).Nodup := by
      rw [← hk, Bool.eq_iff_iff, decide_eq_true_eq, decide_eq_true_eq]; omega
    generalize decide (QA.tl A R).Nodup = b2 at hkz ⊢
    by_cases hb1 : QA.hd A R = (QA.tl A R).drop 1 ++ (QA.tl A R).take 1
    · rw [decide_eq_true hb1] at heq ⊢
      generalize A.map eD = AD at c2 tc hc ⊢
      have lt5 : ∀ s6 : Sl, cBlt (uD gLen) (cCons (cA (cVar 5)) cNil) [.val G, .val (.str M), S2, s3, .own (.lst AD), .own (.lst TD), s6] = .ok (.val (.int R.length)) [.val G, .val (.str M), S2, s3, .own (.lst AD), .own (.lst TD), s6] := fun s6 => by simp [hlt]
      simp [B_shows_round, c1, c2, f1, lk, it, e1, ln, hl0, hl0z, hR0, tc, hc, hdr, htk, hadd, heq, ls1, lt5, -ev_blt]
      simpa using hkz
    · rw [decide_eq_false hb1] at heq ⊢
      generalize A.map eD = AD at c2 tc hc ⊢
      simp [B_shows_round, c1, c2, f1, lk, it, e1, ln, hl0, hl0z, hR0, tc, hc, hdr, htk, hadd, heq, -ev_blt]
end W
end
section
set_option maxRecDepth 100000
/-! F13: k56, alike; what is refused. -/
namespace W
open PySem L2 PyProof.Rows CI
theorem i1 (x : Str) : gIsi "tuple" (.str x) = some (.val (.bl false)) := by exact Eq.trans rfl rfl
theorem i2 (x : Str) : gIsi "str" (.str x) = some (.val (.bl true)) := by exact Eq.trans rfl rfl
theorem i3 (b : Bool) : gIsi "tuple" (.bl b) = some (.val (.bl false)) := by exact Eq.trans rfl rfl
theorem i4 (b : Bool) : gIsi "str" (.bl b) = some (.val (.bl false)) := by exact Eq.trans rfl rfl
theorem i5 (b : Bool) : gIsi "bool" (.bl b) = some (.val (.bl true)) := by exact Eq.trans rfl rfl
theorem i6 (i : Int) : gIsi "tuple" (.int i) = some (.val (.bl false)) := by exact Eq.trans rfl rfl
theorem i7 (i : Int) : gIsi "str" (.int i) = some (.val (.bl false)) := by exact Eq.trans rfl rfl
theorem i8 (i : Int) : gIsi "bool" (.int i) = some (.val (.bl false)) := by exact Eq.trans rfl rfl
theorem i9 (i : Int) : gIsi "int" (.int i) = some (.val (.bl true)) := by exact Eq.trans rfl rfl
theorem i10 (xs : List D) : gIsi "tuple" (.tup xs) = some (.val (.bl true)) := by exact Eq.trans rfl rfl
abbrev Alk (m : Nat) (d : D) : Prop := callF tb m "_law_alike" [.val d, .val d] = .ok (.val (.bl true))
theorem alk_str (m : Nat) {x : Str} (h : PyData.strOk x = true) : Alk (m + 1) (.str x) := by
  unfold Alk
  rw [call_fn tb__law_alike rfl]
  have := v_eqS h h
  simp [FI__law_alike, B__law_alike, i1, i2, this]
theorem alk_bl (m : Nat) (b : Bool) : Alk (m + 1) (.bl b) := by
  unfold Alk
  rw [call_fn tb__law_alike rfl]
  simp [FI__law_alike, B__law_alike, i3, i4, i5]
theorem alk_int (m : Nat) (i : Int) : Alk (m + 1) (.int i) := by
  unfold Alk
  rw [call_fn tb__law_alike rfl]
  simp [FI__law_alike, B__law_alike, i6, i7, i8, i9]
noncomputable def akB (F : CI.Callee) : Mn Fl := (cIfS (cNot (cTr (cCall F ("_law_alike" : Str) (cCons (cA (cBin ixD (cVar 0) (cVar 2))) (cCons (cA (cBin ixD (cVar 1) (cVar 2))) cNil)))))
    (cRet (cCst (.bl false)))
    cPass)
theorem alk_tup (m : Nat) {ds : List D} (hl : ds.length ≤ 1000) (h : ∀ d ∈ ds, Alk (m + 1) d) : Alk (m + 2) (.tup ds) := by
  unfold Alk
  have h2 : rg1 (.int (ds.length : Int)) = some (rgD 0 ds.length) := rg1_nat (by omega)
  obtain ⟨ρ', e, s2, e2⟩ := forL_rg (t := tNm 2) (body := akB (callF tb (m + 1))) ds.length (fun i ρ => ∃ s2, ρ = [.val (.tup ds), .val (.tup ds), s2]) (ρ := [.val (.tup ds), .val (.tup ds), .emp]) ⟨.emp, rfl⟩ fun i ρ hi ⟨s2, e⟩ => by
    subst e
    have hd : ds[i]? = some ds[i] := List.getElem?_eq_getElem hi
    have ha := h ds[i] (List.getElem_mem hi)
    unfold Alk at ha
    refine ⟨_, [.val (.tup ds), .val (.tup ds), .val (.int i)], rfl, ?_, _, rfl⟩
    simp [akB, hd, ha]
  unfold akB at e
  rw [call_fn tb__law_alike rfl]
  simp [FI__law_alike, B__law_alike, i10, h2, e]
/-! what is refused -/
theorem ev_showsR_bad (m : Nat) {n : Nat} {E : List (Nat × Nat)} {t : Str} {cs : List Nat} (h : cs.length = E.length) (hg : Sg cs) (hl : E.length ≤ 100) (pre post : List Int) (x : Int) (hp : ∀ y ∈ pre, 0 ≤ y ∧ y < E.length) (hx : ¬ (0 ≤ x ∧ x < E.length)) {q : Rv} {S2 : Sl} (hq : RowA (pre ++ x :: post) q S2) :
    callF tb (m + 2) "shows_round" [.val (gO n E t), .val (.str (mkS cs)), q] = .exc (xEl x) := by
  have c1 := (ev_check m cs E.length (by omega)).1 (goodS_of h hg)
  have f1 := g_size n E t
  rw [call_fn tb_shows_round rfl]
  simp only [FI_shows_round, ev_start, List.map_cons, List.map_nil, hq.sl]
  generalize gO n E t = G at c1 f1 ⊢
  generalize mkS cs = M at c1 ⊢
  obtain ⟨ρ', e⟩ := sr_bad G E.length f1 (.val (.str M)) S2 .emp .emp .emp x hx post pre .emp hp
  have it := fun s3 s4 s5 s6 => it_7 hq (.val G) (.val (.str M)) s3 s4 s5 s6
  have lk := @lk_7 (pre ++ x :: post) q S2 hq
  unfold srB at e
  generalize (pre ++ x :: post).map D.int = RZ at e it
  simp [B_shows_round, c1, f1, lk, it, e]
theorem bad_paper (m : Nat) {n : Nat} {E : List (Nat × Nat)} {t : Str} {cs : List Nat} (hl : cs.length ≤ 1000) (hb : goodS cs E.length = false) : callF tb (m + 2) "order_paper" [.val (gO n E t), .val (.str (mkS cs))] = .exc (xSg cs) := by
  have c1 := (ev_check m cs E.length hl).2 hb
  have f1 := g_size n E t
  rw [call_fn tb_order_paper rfl]
  generalize gO n E t = G at f1 ⊢
  simp [FI_order_paper, B_order_paper, f1, c1]
theorem bad_order (m : Nat) {n : Nat} {E : List (Nat × Nat)} {t : Str} {cs : List Nat} (hl : cs.length ≤ 1000) (hb : goodS cs E.length = false) {row : List Int} {q : Rv} {S2 : Sl} (hq : RowA row q S2) : callF tb (m + 2) "shows_order" [.val (gO n E t), .val (.str (mkS cs)), q] = .exc (xSg cs) := by
  have c1 := (ev_check m cs E.length hl).2 hb
  have f1 := g_size n E t
  rw [call_fn tb_shows_order rfl]
  simp only [FI_shows_order, ev_start, List.map_cons, List.map_nil, hq.sl]
  generalize gO n E t = G at f1 ⊢
  simp [B_shows_order, f1, c1]
theorem bad_round (m : Nat) {n : Nat} {E : List (Nat × Nat)} {t : Str} {cs : List Nat} (hl : cs.length ≤ 1000) (hb : goodS cs E.length = false) {row : List Int} {q : Rv} {S2 : Sl} (hq : RowA row q S2) : callF tb (m + 2) "shows_round" [.val (gO n E t), .val (.str (mkS cs)), q] = .exc (xSg cs) := by
  have c1 := (ev_check m cs E.length hl).2 hb
  have f1 := g_size n E t
  rw [call_fn tb_shows_round rfl]
  simp only [FI_shows_round, ev_start, List.map_cons, List.map_nil, hq.sl]
  generalize gO n E t = G at f1 ⊢
  simp [B_shows_round, f1, c1]
/-! the fate -/
theorem RowA.bor {row : List Int} {q : Rv} {S : Sl} (h : RowA row q S) : (∃ d, S = .val d ∧ q = .val d) ∨ ∃ d, S = .bor d ∧ q = .bor d := by
  cases h
  · exact .inl ⟨_, rfl, rfl⟩
  · exact .inr ⟨_, rfl, rfl⟩
  · exact .inl ⟨_, rfl, rfl⟩
theorem called_bad (m : Nat) {n : Nat} {E : List (Nat × Nat)} {t : Str} {cs : List Nat} (hl : cs.length ≤ 1000) (hb : goodS cs E.length = false) {row : List Int} {q : Rv} {S2 : Sl} (hq : RowA row q S2) (door : Nat) (hd : door < 3) :
    callF tb (m + 3) "_law_called" [.val (.int door), .val (gO n E t), .val (.str (mkS cs)), q] = .exc (xSg cs) := by
  have b0 := bad_paper m (n := n) (t := t) hl hb
  have b1 := bad_order m (n := n) (t := t) hl hb hq
  have b2 := bad_round m (n := n) (t := t) hl hb hq
  rw [call_fn tb__law_called rfl]
  generalize gO n E t = G at b0 b1 b2 ⊢
  have : door = 0 ∨ door = 1 ∨ door = 2 := by omega
  rcases hq.bor with ⟨d, rfl, rfl⟩ | ⟨d, rfl, rfl⟩ <;> rcases this with rfl | rfl | rfl <;> simp [FI__law_called, B__law_called, b0, b1, b2]
theorem called_two (m : Nat) {G : D} {M : Str} {q : Rv} {row : List Int} {S2 : Sl} (hq : RowA row q S2) : callF tb (m + 1) "_law_called" [.val (.int 2), .val G, .val (.str M), q] = callF tb m "shows_round" [.val G, .val (.str M), q] ∨ (callF tb m "shows_round" [.val G, .val (.str M), q]) = .stuck ∨ ∃ d, callF tb m "shows_round" [.val G, .val (.str M), q] = .ok (.bor d) := by
  cases e : callF tb m "shows_round" [.val G, .val (.str M), q] with
  | stuck => exact .inr (.inl rfl)
  | exc x =>
    left
    rw [call_fn tb__law_called rfl]
    rcases hq.bor with ⟨d, rfl, rfl⟩ | ⟨d, rfl, rfl⟩ <;> simp [FI__law_called, B__law_called, e]
  | ok r =>
    cases r with
    | bor d => exact .inr (.inr ⟨d, rfl⟩)
    | val v =>
      left
      rw [call_fn tb__law_called rfl]
      rcases hq.bor with ⟨d, rfl, rfl⟩ | ⟨d, rfl, rfl⟩ <;> simp [FI__law_called, B__law_called, e]
    | own v =>
      left
      rw [call_fn tb__law_called rfl]
      rcases hq.bor with ⟨d, rfl, rfl⟩ | ⟨d, rfl, rfl⟩ <;> simp [FI__law_called, B__law_called, e]
end W
end
section
set_option maxRecDepth 100000
/-! F14: k56, the fate. -/
namespace W
open PySem L2 PyProof.Rows CI
@[simp] theorem ev_isX {ρ : En} {i : Nat} {x : Exc} {su : Str → Option Bool} {b : Bool} (h : ρ[i]? = some (.exn x)) (hs : su x.1 = some b) : cIsX i su ρ = .ok (.val (.bl b)) ρ := by unfold cIsX; rw [h]; simp only [hs]
theorem ev_xf {ρ : En} {i : Nat} {x : Exc} {cs : List Str} {f : Str} {d : D} (h : ρ[i]? = some (.exn x)) (hc : x.1 ∈ cs) (hl : x.2.lookup f = some d) : cXF cs i f ρ = .ok (.val d) ρ := by
  unfold cXF; rw [h]; simp only [hl]; rw [if_pos hc]
theorem fate_signs (m : Nat) {door : D} {G : D} {cs : List Nat} {q : Rv} {row : List Int} {S2 : Sl} (hq : RowA row q S2) (hc : callF tb m "_law_called" [.val door, .val G, .val (.str (mkS cs)), q] = .exc (xSg cs)) :
    callF tb (m + 1) "_law_fate" [.val door, .val G, .val (.str (mkS cs)), q] = .ok (.val (.tup [.str "signs", .str (mkS cs)])) := by
  have hs : sizeLine = 16777216 := sizeLine_eq
  have hz : sz 2 = true := sz_ok (by omega)
  rw [call_fn tb__law_fate rfl]
  simp only [FI__law_fate, ev_start, List.map_cons, List.map_nil, hq.sl]
  have s1 : su_StrikejoinError ("BadSigns" : Str) = some true := by decide +kernel
  have s2 : su_BadSigns ("BadSigns" : Str) = some true := by decide +kernel
  have s3 : su_BadElement ("BadSigns" : Str) = some false := by decide +kernel
  have s4 : su_ValueError ("BadSigns" : Str) = some true := by decide +kernel
  unfold xSg at hc
  generalize mkS cs = M at hc ⊢
  have hx : cXF xs_signs 4 ("signs" : Str) [.val door, .val G, .val (.str M), S2, .exn ("BadSigns", [("signs", .str M)]), .val (.bl true)] = .ok (.val (.str M)) [.val door, .val G, .val (.str M), S2, .exn ("BadSigns", [("signs", .str M)]), .val (.bl true)] := ev_xf rfl (show ("BadSigns" : Str) ∈ xs_signs by decide +kernel) rfl
  have hbody : cExpr (cCall (callF tb m) ("_law_called" : Str) (cCons (cA (cVar 0)) (cCons (cA (cVar 1)) (cCons (cA (cFrz 2)) (cCons (cA (cVar 3)) cNil))))) [.val door, .val G, .val (.str M), S2, .emp, .emp] = .exc ("BadSigns", [("signs", .str M)]) [.val door, .val G, .val (.str M), S2, .emp, .emp] := by
    rcases hq.bor with ⟨d, rfl, rfl⟩ | ⟨d, rfl, rfl⟩ <;> simp [hc]
  have htry := ev_tryX (i := 4) (su := su_StrikejoinError) (suite := (cSeq (cSet 5 (cIsX 4 su_BadSigns))
    (cSeq (cIfS (cOr (cTst (cBin oEq (cVar 5) (cIsX 4 su_BadElement))) (cNot (cTr (cIsX 4 su_ValueError))))
    (cRet (cTup (cCons (cV (cCst (.str "other"))) cNil)))
    cPass)
    (cSeq (cIfS (cTr (cVar 5))
    (cRet (cTup (cCons (cV (cCst (.str "signs"))) (cCons (cV (cXF xs_signs 4 ("signs" : Str))) cNil))))
    cPass)
    (cRet (cTup (cCons (cV (cCst (.str "edge"))) (cCons (cV (cXF xs_element 4 ("element" : Str))) cNil)))))))) hbody s1
  simp [B__law_fate, htry, s2, s3, s4, hx, hz, sufEnd]
theorem fate_edge (m : Nat) {door : D} {G : D} {M : Str} {x : Int} {q : Rv} {row : List Int} {S2 : Sl} (hq : RowA row q S2) (hc : callF tb m "_law_called" [.val door, .val G, .val (.str M), q] = .exc (xEl x)) :
    callF tb (m + 1) "_law_fate" [.val door, .val G, .val (.str M), q] = .ok (.val (.tup [.str "edge", .int x])) := by
  have hs : sizeLine = 16777216 := sizeLine_eq
  have hz : sz 2 = true := sz_ok (by omega)
  rw [call_fn tb__law_fate rfl]
  simp only [FI__law_fate, ev_start, List.map_cons, List.map_nil, hq.sl]
  have s1 : su_StrikejoinError ("BadElement" : Str) = some true := by decide +kernel
  have s2 : su_BadSigns ("BadElement" : Str) = some false := by decide +kernel
  have s3 : su_BadElement ("BadElement" : Str) = some true := by decide +kernel
  have s4 : su_ValueError ("BadElement" : Str) = some true := by decide +kernel
  have hx : cXF xs_element 4 ("element" : Str) [.val door, .val G, .val (.str M), S2, .exn ("BadElement", [("element", .int x)]), .val (.bl false)] = .ok (.val (.int x)) [.val door, .val G, .val (.str M), S2, .exn ("BadElement", [("element", .int x)]), .val (.bl false)] := ev_xf rfl (show ("BadElement" : Str) ∈ xs_element by decide +kernel) rfl
  have hbody : cExpr (cCall (callF tb m) ("_law_called" : Str) (cCons (cA (cVar 0)) (cCons (cA (cVar 1)) (cCons (cA (cFrz 2)) (cCons (cA (cVar 3)) cNil))))) [.val door, .val G, .val (.str M), S2, .emp, .emp] = .exc ("BadElement", [("element", .int x)]) [.val door, .val G, .val (.str M), S2, .emp, .emp] := by
    rcases hq.bor with ⟨d, rfl, rfl⟩ | ⟨d, rfl, rfl⟩ <;> simp [hc]
  have htry := ev_tryX (i := 4) (su := su_StrikejoinError) (suite := (cSeq (cSet 5 (cIsX 4 su_BadSigns))
    (cSeq (cIfS (cOr (cTst (cBin oEq (cVar 5) (cIsX 4 su_BadElement))) (cNot (cTr (cIsX 4 su_ValueError))))
    (cRet (cTup (cCons (cV (cCst (.str "other"))) cNil)))
    cPass)
    (cSeq (cIfS (cTr (cVar 5))
    (cRet (cTup (cCons (cV (cCst (.str "signs"))) (cCons (cV (cXF xs_signs 4 ("signs" : Str))) cNil))))
    cPass)
    (cRet (cTup (cCons (cV (cCst (.str "edge"))) (cCons (cV (cXF xs_element 4 ("element" : Str))) cNil)))))))) hbody s1
  simp [B__law_fate, htry, s2, s3, s4, hx, hz, sufEnd]
theorem fate_told (m : Nat) {door : D} {G : D} {M : Str} {v : D} {q : Rv} {row : List Int} {S2 : Sl} (hq : RowA row q S2) (hc : callF tb m "_law_called" [.val door, .val G, .val (.str M), q] = .ok (.val v)) :
    callF tb (m + 1) "_law_fate" [.val door, .val G, .val (.str M), q] = .ok (.val (.tup [.str "told"])) := by
  have hs : sizeLine = 16777216 := sizeLine_eq
  have hz : sz 1 = true := sz_ok (by omega)
  rw [call_fn tb__law_fate rfl]
  simp only [FI__law_fate, ev_start, List.map_cons, List.map_nil, hq.sl]
  have hbody : cExpr (cCall (callF tb m) ("_law_called" : Str) (cCons (cA (cVar 0)) (cCons (cA (cVar 1)) (cCons (cA (cFrz 2)) (cCons (cA (cVar 3)) cNil))))) [.val door, .val G, .val (.str M), S2, .emp, .emp] = .ok .nx [.val door, .val G, .val (.str M), S2, .emp, .emp] := by
    rcases hq.bor with ⟨d, rfl, rfl⟩ | ⟨d, rfl, rfl⟩ <;> simp [hc]
  have htry := ev_tryO (i := 4) (su := su_StrikejoinError) (suite := (cSeq (cSet 5 (cIsX 4 su_BadSigns))
    (cSeq (cIfS (cOr (cTst (cBin oEq (cVar 5) (cIsX 4 su_BadElement))) (cNot (cTr (cIsX 4 su_ValueError))))
    (cRet (cTup (cCons (cV (cCst (.str "other"))) cNil)))
    cPass)
    (cSeq (cIfS (cTr (cVar 5))
    (cRet (cTup (cCons (cV (cCst (.str "signs"))) (cCons (cV (cXF xs_signs 4 ("signs" : Str))) cNil))))
    cPass)
    (cRet (cTup (cCons (cV (cCst (.str "edge"))) (cCons (cV (cXF xs_element 4 ("element" : Str))) cNil)))))))) hbody
  simp [B__law_fate, htry, hz]
end W
end
section
set_option maxRecDepth 100000
/-! F15: k56, papers, judgements. -/
namespace W
open PySem L2 PyProof.Rows CI
theorem ev_plain (m : Nat) (l : List Nat) : callF tb (m + 1) "_law_plain_row" [.val (.tup (nD l))] = .ok (.val (.bl true)) := by
  obtain ⟨ρ', e, s1, e2⟩ := forL_ix (t := tNm 1) (body := (cIfS (cOr (cNot (cTr (cUn (gIsi "int") (cVar 1)))) (cTr (cUn (gIsi "bool") (cVar 1))))
    (cRet (cCst (.bl false)))
    cPass)) (fun (k : Nat) => D.int (k : Int)) l (fun i ρ => ∃ s1, ρ = [.val (.tup (nD l)), s1]) (ρ := [.val (.tup (nD l)), .emp]) ⟨.emp, rfl⟩ fun i x ρ hx ⟨s1, e⟩ => by
      subst e
      generalize nD l = LD
      refine ⟨_, [.val (.tup LD), .val (.int (x : Int))], rfl, ?_, _, rfl⟩
      simp [i8, i9]
  have hn : l.map (fun (k : Nat) => D.int (k : Int)) = nD l := rfl
  rw [hn] at e
  subst e2
  generalize nD l = LD at e ⊢
  rw [call_fn tb__law_plain_row rfl]
  simp [FI__law_plain_row, B__law_plain_row, i10, e]
theorem isO_true {n : Nat} {A : QA.Ar} {O : List Nat} (hp : O.Perm (List.range n)) (hb : QA.Bef A O) : isO n A (nZ O) = true := by
  unfold isO
  have h1 : sortI (nZ O) = nZ (List.range n) := by
    refine (sortI_uniq ?_ ?_).symm
    · unfold nZ; exact hp.symm.map _
    · unfold nZ
      rw [List.pairwise_map]
      exact List.pairwise_lt_range.imp fun {a b} h => by omega
  rw [decide_eq_true h1, Bool.true_and, List.all_eq_true]
  intro a ha
  rw [idxOf_nZ, idxOf_nZ, decide_eq_true_eq]
  exact hb a ha
theorem ok_ord : PyData.strOk ("order" : Str) = true := by decide +kernel
theorem ok_rnd : PyData.strOk ("round" : Str) = true := by decide +kernel
theorem ok_sgn : PyData.strOk ("signs" : Str) = true := by decide +kernel
theorem ok_edg : PyData.strOk ("edge" : Str) = true := by decide +kernel
theorem ok_tld : PyData.strOk ("told" : Str) = true := by decide +kernel
theorem ne_ro : decide (("round" : Str) = ("order" : Str)) = false := by decide +kernel
theorem ev_lpaper (m : Nat) {n : Nat} {E : List (Nat × Nat)} {t : Str} {cs : List Nat} (hE : QA.In n E) (h : cs.length = E.length) (hg : Sg cs) (hl : E.length ≤ 50) (hn : n ≤ 10) :
    callF tb (m + 3) "_law_paper" [.val (gO n E t), .val (.int n), .bor (.lst ((arr E cs).map eD)), .val (.str (mkS cs))] = .ok (.val (.bl true)) := by
  have hs : sizeLine = 16777216 := sizeLine_eq
  have hz : sz 2 = true := sz_ok (by omega)
  have hA := arr_in cs hE
  have hAl := arr_len h
  have hhas := ev_has m hA hn (by omega)
  have i0 : ∀ (a b : D), ixD (.tup [a, b]) (.int 0) = some (.val a) := fun a b => v_ix2 [a, b] 0
  have i11 : ∀ (a b : D), ixD (.tup [a, b]) (.int 1) = some (.val b) := fun a b => v_ix2 [a, b] 1
  rw [call_fn tb__law_paper rfl]
  rcases ev_paper m (t := t) hE h hg (by omega) hn with ⟨O, hp, hb, e⟩ | ⟨R, hR, e⟩
  · have hO := QA.bef_hasR n hb
    rw [hO] at hhas
    have hak := alk_str (m + 1) ok_ord
    unfold Alk at hak
    have hpl := ev_plain (m + 1) O
    have hol : O.length = n := by simpa using hp.length_eq
    have so := ev_showsO m (t := t) hE h hg (by omega) hn (row := nZ O) (by simp [nZ]; omega) (q := .val (.tup ((nZ O).map .int))) .vt
    have io := ev_isO (m + 1) hA hn (nZ O) (.bor (.lst ((nZ O).map .int))) (.inr rfl)
    rw [isO_true hp hb, ← nD_z] at so io
    have eq := v_eqS ok_ord ok_ord
    generalize gO n E t = G at e so ⊢
    generalize (arr E cs).map eD = AD at hhas io ⊢
    generalize mkS cs = M at e so ⊢
    generalize nD O = OD at e hpl so io ⊢
    simp [FI__law_paper, B__law_paper, hhas, e, i10, i0, i11, hak, hpl, eq, io, so]
  · have hO := QA.rnd_hasR (hR.rnd hA)
    rw [hO] at hhas
    have hak := alk_str (m + 1) ok_rnd
    unfold Alk at hak
    have hpl := ev_plain (m + 1) R
    have hin : ∀ e ∈ R, e < (arr E cs).length := hR.inA
    have hrl : R.length ≤ 10 := by
      have := QA.nodup_le n (QA.tl (arr E cs) R) hR.nd (hR.rnd hA).lt
      rw [QA.tl_len] at this
      omega
    have sr := ev_showsR m (t := t) hE h hg (by omega) (R := R) (fun e he => by have := hin e he; omega) (by omega) (q := .val (.tup ((nZ R).map .int))) .vt
    have ir := ev_isR (m + 1) hin (by omega) (.bor (.lst (nD R))) (.inr rfl)
    rw [QA.rdB_of hR] at sr ir
    rw [← nD_z] at sr
    have eq := v_eqS ok_rnd ok_ord
    rw [ne_ro] at eq
    generalize gO n E t = G at e sr ⊢
    generalize (arr E cs).map eD = AD at hhas ir ⊢
    generalize mkS cs = M at e sr ⊢
    generalize nD R = RD at e hpl sr ir ⊢
    simp [FI__law_paper, B__law_paper, hhas, e, i10, i0, i11, hak, hpl, eq, ir, sr]
/-! judged -/
def lI (r : List Int) : D := .lst (r.map .int)
theorem ev_ojudged (m : Nat) {n : Nat} {E : List (Nat × Nat)} {t : Str} {cs : List Nat} (hE : QA.In n E) (h : cs.length = E.length) (hg : Sg cs) (hl : E.length ≤ 50) (hn : n ≤ 10) (rows : List (List Int)) (hr : ∀ r ∈ rows, r.length ≤ 1000) :
    callF tb (m + 3) "_law_orders_judged" [.val (gO n E t), .val (.int n), .bor (.lst ((arr E cs).map eD)), .val (.str (mkS cs)), .bor (.lst (rows.map lI))] = .ok (.val (.bl true)) := by
  have hA := arr_in cs hE
  obtain ⟨G, hG⟩ : ∃ G, G = gO n E t := ⟨_, rfl⟩
  obtain ⟨AD, hAD⟩ : ∃ AD, AD = (arr E cs).map eD := ⟨_, rfl⟩
  obtain ⟨M, hM⟩ : ∃ M, M = mkS cs := ⟨_, rfl⟩
  obtain ⟨ρ', e, s5, s6, s7, s8, e2⟩ := forL_ix (t := tNm 5) (body := (cSeq (cSet 6 (cCall (callF tb (m + 2)) ("_law_is_order" : Str) (cCons (cA (cVar 1)) (cCons (cA (cVar 2)) (cCons (cA (cVar 5)) cNil)))))
    (cSeq (cSet 7 (cBlt (uD gList) (cCons (cA (cVar 5)) cNil)))
    (cSeq (cSet 8 (cCall (callF tb (m + 2)) ("shows_order" : Str) (cCons (cA (cVar 0)) (cCons (cA (cFrz 3)) (cCons (cA (cVar 7)) cNil)))))
    (cSeq (cIfS (cOr (cNot (cTr (cCall (callF tb (m + 2)) ("_law_alike" : Str) (cCons (cA (cVar 8)) (cCons (cA (cVar 6)) cNil))))) (cTst (cBin oNe (cVar 7) (cVar 5))))
    (cRet (cCst (.bl false)))
    cPass)
    (cIfS (cNot (cTr (cCall (callF tb (m + 2)) ("_law_alike" : Str) (cCons (cA (cCall (callF tb (m + 2)) ("shows_order" : Str) (cCons (cA (cVar 0)) (cCons (cA (cFrz 3)) (cCons (cA (cBlt (uD gTuple) (cCons (cA (cVar 5)) cNil))) cNil))))) (cCons (cA (cVar 6)) cNil)))))
    (cRet (cCst (.bl false)))
    cPass)))))) lI rows (fun i ρ => ∃ s5 s6 s7 s8, ρ = [.val G, .val (.int n), .bor (.lst AD), .val (.str M), .bor (.lst (rows.map lI)), s5, s6, s7, s8]) (ρ := [.val G, .val (.int n), .bor (.lst AD), .val (.str M), .bor (.lst (rows.map lI)), .emp, .emp, .emp, .emp]) ⟨.emp, .emp, .emp, .emp, rfl⟩ fun i r ρ hrow ⟨s5, s6, s7, s8, e⟩ => by
      subst e
      have hrl := hr r (List.mem_of_getElem? hrow)
      have io := ev_isO (m + 1) hA hn r (.val (.lst (r.map .int))) (.inl rfl)
      have so1 := ev_showsO m (t := t) hE h hg (by omega) hn hrl (q := .bor (.lst (r.map .int))) .bl
      have so2 := ev_showsO m (t := t) hE h hg (by omega) hn hrl (q := .val (.tup (r.map .int))) .vt
      rw [← hG, ← hM] at so1 so2
      rw [← hAD] at io
      have ak := alk_bl (m + 1) (isO n (arr E cs) r)
      unfold Alk at ak
      have ne := v_neL r r
      rw [decide_eq_true (rfl : r = r)] at ne
      unfold lI
      generalize rows.map (fun r => D.lst (r.map D.int)) = RS
      generalize r.map D.int = RD at io so1 so2 ne ⊢
      generalize isO n (arr E cs) r = bb at io so1 so2 ak
      refine ⟨_, [.val G, .val (.int n), .bor (.lst AD), .val (.str M), .bor (.lst RS), .val (.lst RD), .val (.bl bb), .own (.lst RD), .val (.bl bb)], rfl, ?_, _, _, _, _, rfl⟩
      simp [io, so1, so2, ak, ne]
  subst e2
  rw [← hG, ← hAD, ← hM]
  generalize rows.map lI = RS at e ⊢
  rw [call_fn tb__law_orders_judged rfl]
  simp [FI__law_orders_judged, B__law_orders_judged, e]
def lN (r : List Nat) : D := .lst (nD r)
theorem ev_rjudged (m : Nat) {n : Nat} {E : List (Nat × Nat)} {t : Str} {cs : List Nat} (hE : QA.In n E) (h : cs.length = E.length) (hg : Sg cs) (hl : E.length ≤ 50) (rows : List (List Nat)) (hr : ∀ r ∈ rows, r.length < 64 ∧ ∀ e ∈ r, e < E.length) :
    callF tb (m + 3) "_law_rounds_judged" [.val (gO n E t), .bor (.lst ((arr E cs).map eD)), .val (.str (mkS cs)), .bor (.lst (rows.map lN))] = .ok (.val (.bl true)) := by
  have hA := arr_in cs hE
  have hAl := arr_len h
  obtain ⟨G, hG⟩ : ∃ G, G = gO n E t := ⟨_, rfl⟩
  obtain ⟨AD, hAD⟩ : ∃ AD, AD = (arr E cs).map eD := ⟨_, rfl⟩
  obtain ⟨M, hM⟩ : ∃ M, M = mkS cs := ⟨_, rfl⟩
  obtain ⟨ρ', e, s5, s6, s7, s8, e2⟩ := forL_ix (t := tNm 4) (body := (cSeq (cSet 5 (cCall (callF tb (m + 2)) ("_law_is_round" : Str) (cCons (cA (cVar 1)) (cCons (cA (cVar 4)) cNil))))
    (cSeq (cSet 6 (cBlt (uD gList) (cCons (cA (cVar 4)) cNil)))
    (cSeq (cSet 7 (cCall (callF tb (m + 2)) ("shows_round" : Str) (cCons (cA (cVar 0)) (cCons (cA (cFrz 2)) (cCons (cA (cVar 6)) cNil)))))
    (cSeq (cIfS (cOr (cNot (cTr (cCall (callF tb (m + 2)) ("_law_alike" : Str) (cCons (cA (cVar 7)) (cCons (cA (cVar 5)) cNil))))) (cTst (cBin oNe (cVar 6) (cVar 4))))
    (cRet (cCst (.bl false)))
    cPass)
    (cIfS (cNot (cTr (cCall (callF tb (m + 2)) ("_law_alike" : Str) (cCons (cA (cCall (callF tb (m + 2)) ("shows_round" : Str) (cCons (cA (cVar 0)) (cCons (cA (cFrz 2)) (cCons (cA (cBlt (uD gTuple) (cCons (cA (cVar 4)) cNil))) cNil))))) (cCons (cA (cVar 5)) cNil)))))
    (cRet (cCst (.bl false)))
    cPass)))))) lN rows (fun i ρ => ∃ s5 s6 s7 s8, ρ = [.val G, .bor (.lst AD), .val (.str M), .bor (.lst (rows.map lN)), s5, s6, s7, s8]) (ρ := [.val G, .bor (.lst AD), .val (.str M), .bor (.lst (rows.map lN)), .emp, .emp, .emp, .emp]) ⟨.emp, .emp, .emp, .emp, rfl⟩ fun i r ρ hrow ⟨s5, s6, s7, s8, e⟩ => by
      subst e
      obtain ⟨hrl, hri⟩ := hr r (List.mem_of_getElem? hrow)
      have io := ev_isR (m + 1) (A := arr E cs) (R := r) (fun e he => by have := hri e he; omega) (by omega) (.val (.lst (nD r))) (.inl rfl)
      have so1 := ev_showsR m (t := t) hE h hg (by omega) hri hrl (q := .bor (.lst ((nZ r).map .int))) .bl
      have so2 := ev_showsR m (t := t) hE h hg (by omega) hri hrl (q := .val (.tup ((nZ r).map .int))) .vt
      rw [← hG, ← hM, ← nD_z] at so1 so2
      rw [← hAD] at io
      have ak := alk_bl (m + 1) (QA.rdB (arr E cs) r)
      unfold Alk at ak
      have ne := v_neL (nZ r) (nZ r)
      rw [decide_eq_true (rfl : nZ r = nZ r), ← nD_z] at ne
      unfold lN
      generalize rows.map (fun r => D.lst (nD r)) = RS
      generalize nD r = RD at io so1 so2 ne ⊢
      generalize QA.rdB (arr E cs) r = bb at io so1 so2 ak
      refine ⟨_, [.val G, .bor (.lst AD), .val (.str M), .bor (.lst RS), .val (.lst RD), .val (.bl bb), .own (.lst RD), .val (.bl bb)], rfl, ?_, _, _, _, _, rfl⟩
      simp [io, so1, so2, ak, ne]
  subst e2
  rw [← hG, ← hAD, ← hM]
  generalize rows.map lN = RS at e ⊢
  rw [call_fn tb__law_rounds_judged rfl]
  simp [FI__law_rounds_judged, B__law_rounds_judged, e]
end W
end
section
set_option maxRecDepth 100000
/-! F16: k56, refusals. -/
namespace W
open PySem L2 PyProof.Rows CI
theorem gS_len {a : List Nat} {s : Nat} (h : a.length ≠ s) : goodS a s = false := by unfold goodS; rw [decide_eq_false h]; rfl
theorem gS_mem {a : List Nat} {s c : Nat} (h : c ∈ a) (hc : c ∉ ([43, 45] : List Nat)) : goodS a s = false := by
  unfold goodS
  have : (a.all fun c => decide (c ∈ ([43, 45] : List Nat))) = false := by
    rw [Bool.eq_false_iff]
    intro e
    have := List.all_eq_true.mp e c h
    exact hc (of_decide_eq_true this)
  rw [this, Bool.and_false]
abbrev badL : List Nat := [42, 44, 46, 32, 120, 48, 61]
noncomputable def rfI (F : CI.Callee) : Mn Fl := (cIfS (cNot (cTr (cCall F ("_law_alike" : Str) (cCons (cA (cCall F ("_law_fate" : Str) (cCons (cA (cVar 13)) (cCons (cA (cVar 0)) (cCons (cA (cFrz 12)) (cCons (cA (cVar 11)) cNil)))))) (cCons (cA (cTup (cCons (cV (cCst (.str "signs"))) (cCons (cV (cFrz 12)) cNil)))) cNil)))))
    (cRet (cCst (.bl false)))
    cPass)
theorem rf_inner (m : Nat) {n : Nat} {E : List (Nat × Nat)} {t : Str} {tx : List Nat} (hl : tx.length ≤ 1000) (hlt : ∀ c ∈ tx, c < 1000) (hb : goodS tx E.length = false) (row : List Int) (s1 s2 s3 s4 s5 s6 s7 s8 s9 s10 s13 : Sl) :
    ∃ t13, forL (tNm 13) (rfI (callF tb (m + 4))) (rgD 0 3) [.val (gO n E t), s1, s2, s3, s4, s5, s6, s7, s8, s9, s10, .own (.lst (row.map .int)), .val (.str (mkS tx)), s13] =
      .ok .nx [.val (gO n E t), s1, s2, s3, s4, s5, s6, s7, s8, s9, s10, .own (.lst (row.map .int)), .val (.str (mkS tx)), t13] := by
  have hs : sizeLine = 16777216 := sizeLine_eq
  have hz : sz 2 = true := sz_ok (by omega)
  have ak : Alk (m + 4) (.tup [.str "signs", .str (mkS tx)]) := alk_tup (m + 2) (by simp) fun d hd => by
    simp only [List.mem_cons, List.not_mem_nil, or_false] at hd
    rcases hd with rfl | rfl
    · exact alk_str _ ok_sgn
    · exact alk_str _ (mkS_ok hlt)
  unfold Alk at ak
  obtain ⟨ρ', e, u13, e2⟩ := forL_rg (t := tNm 13) (body := rfI (callF tb (m + 4))) 3 (fun i ρ => ∃ t13, ρ = [.val (gO n E t), s1, s2, s3, s4, s5, s6, s7, s8, s9, s10, .own (.lst (row.map .int)), .val (.str (mkS tx)), t13]) (ρ := [.val (gO n E t), s1, s2, s3, s4, s5, s6, s7, s8, s9, s10, .own (.lst (row.map .int)), .val (.str (mkS tx)), s13]) ⟨s13, rfl⟩ fun i ρ hi ⟨t13, e⟩ => by
      subst e
      have f := fate_signs (m + 3) RowA.bl (called_bad m (n := n) (t := t) hl hb (RowA.bl (row := row)) i hi)
      generalize gO n E t = G at f ⊢
      generalize mkS tx = M at f ak ⊢
      generalize row.map D.int = RD at f ⊢
      refine ⟨_, [.val G, s1, s2, s3, s4, s5, s6, s7, s8, s9, s10, .own (.lst RD), .val (.str M), .val (.int i)], rfl, ?_, _, rfl⟩
      simp [rfI, f, ak, hz]
  exact ⟨u13, by rw [e, e2]⟩
theorem rf_outer (m : Nat) {n : Nat} {E : List (Nat × Nat)} {t : Str} (txs : List (List Nat)) (hb : ∀ tx ∈ txs, tx.length ≤ 1000 ∧ (∀ c ∈ tx, c < 1000) ∧ goodS tx E.length = false) (row : List Int) (s1 s2 s3 s4 s5 s6 s7 s8 s9 s10 : Sl) :
    ∃ t12 t13, forL (tNm 12) (cFor (ciRg1 (cCst (.int 3))) (tNm 13) (rfI (callF tb (m + 4)))) (txs.map fun tx => D.str (mkS tx)) [.val (gO n E t), s1, s2, s3, s4, s5, s6, s7, s8, s9, s10, .own (.lst (row.map .int)), .emp, .emp] =
      .ok .nx [.val (gO n E t), s1, s2, s3, s4, s5, s6, s7, s8, s9, s10, .own (.lst (row.map .int)), t12, t13] := by
  have h3 : rg1 (.int 3) = some (rgD 0 3) := rg1_nat (k := 3) (by omega)
  obtain ⟨ρ', e, u12, u13, e2⟩ := forL_ix (t := tNm 12) (body := (cFor (ciRg1 (cCst (.int 3))) (tNm 13) (rfI (callF tb (m + 4))))) (fun tx => D.str (mkS tx)) txs (fun i ρ => ∃ t12 t13, ρ = [.val (gO n E t), s1, s2, s3, s4, s5, s6, s7, s8, s9, s10, .own (.lst (row.map .int)), t12, t13]) (ρ := [.val (gO n E t), s1, s2, s3, s4, s5, s6, s7, s8, s9, s10, .own (.lst (row.map .int)), .emp, .emp]) ⟨.emp, .emp, rfl⟩ fun i tx ρ hx ⟨t12, t13, e⟩ => by
      subst e
      obtain ⟨b1, b2, b3⟩ := hb tx (List.mem_of_getElem? hx)
      obtain ⟨v13, e⟩ := rf_inner m (n := n) (t := t) b1 b2 b3 row s1 s2 s3 s4 s5 s6 s7 s8 s9 s10 t13
      generalize gO n E t = G at e ⊢
      generalize mkS tx = M at e ⊢
      generalize row.map D.int = RD at e ⊢
      refine ⟨_, [.val G, s1, s2, s3, s4, s5, s6, s7, s8, s9, s10, .own (.lst RD), .val (.str M), v13], rfl, ?_, _, _, rfl⟩
      simp [h3, e]
  exact ⟨u12, u13, by rw [e, e2]⟩
def oddF (size k : Nat) : Int := if k = 0 then (size : Int) else if k = 1 then -1 else if k = 2 then 10 ^ 20 else -(size : Int) - 1
theorem oddF_out {size : Nat} (h : size ≤ 1000) (k : Nat) : ¬ (0 ≤ oddF size k ∧ oddF size k < size) := by
  unfold oddF
  split
  · omega
  · split
    · omega
    · split
      · have : (10 : Int) ^ 20 = 100000000000000000000 := by decide
        rw [this]; omega
      · omega
theorem ev_refused (m : Nat) {n : Nat} {E : List (Nat × Nat)} {t : Str} {cs : List Nat} (hE : QA.In n E) (h : cs.length = E.length) (hg : Sg cs) (hl : E.length ≤ 50) {ring : List Nat} (hr : ∀ e ∈ ring, e < E.length) (hrl : ring.length ≤ 20) (cell : Nat) (q : Rv) (hq : q = .val (.lst (nD ring)) ∨ q = .bor (.lst (nD ring))) :
    callF tb (m + 5) "_law_refused" [.val (gO n E t), .val (.int E.length), .val (.str (mkS cs)), q, .val (.int cell)] = .ok (.val (.bl true)) := by
  have hs : sizeLine = 16777216 := sizeLine_eq
  have hz1 : sz 1 = true := sz_ok (by omega)
  have hz2 : sz 2 = true := sz_ok (by omega)
  have hz4 : sz 4 = true := sz_ok (by omega)
  have hlt := hg.lt
  obtain ⟨size, hsz⟩ : ∃ size, size = E.length := ⟨_, rfl⟩
  -- at, sign, bent
  have hmx : gMax2 (.int 1) (.int (size : Int)) = some (.val (.int ((max 1 size : Nat) : Int))) := by
    rw [v_max]
    congr 3
    split <;> omega
  have hdm : divOk ((max 1 size : Nat) : Int) = true := divOk_nat (by omega) (by omega)
  have hm0 : ¬ (max 1 size) = 0 := by omega
  have f1 : (cell : Int).fmod ((max 1 size : Nat) : Int) = ((cell % max 1 size : Nat) : Int) := fmodN cell (max 1 size)
  have f2 : (cell : Int).fdiv 10 = ((cell / 10 : Nat) : Int) := fdivN cell 10
  have f3 : ((cell / 10 : Nat) : Int).fmod 7 = ((cell / 10 % 7 : Nat) : Int) := fmodN _ 7
  have f4 : (cell : Int).fdiv 70 = ((cell / 70 : Nat) : Int) := fdivN cell 70
  have f5 : ((cell / 70 : Nat) : Int).fmod 4 = ((cell / 70 % 4 : Nat) : Int) := fmodN _ 4
  have f6 : (cell : Int).fdiv 280 = ((cell / 280 : Nat) : Int) := fdivN cell 280
  have f7 : ((cell / 280 : Nat) : Int).fmod ((ring.length : Int) + 1) = ((cell / 280 % (ring.length + 1) : Nat) : Int) := fmodN _ (ring.length + 1)
  have hr1 : ¬ ((ring.length : Int) + 1) = 0 := by omega
  have hp7 : cell / 10 % 7 < 7 := Nat.mod_lt _ (by omega)
  have hp4 : cell / 70 % 4 < 4 := Nat.mod_lt _ (by omega)
  generalize hat : cell % max 1 size = at_ at f1
  generalize cell / 10 % 7 = sg at f3 hp7
  generalize cell / 70 % 4 = od at f5 hp4
  generalize cell / 280 % (ring.length + 1) = sp at f7
  obtain ⟨c, hc⟩ : ∃ c, badL[sg]? = some c := ⟨badL[sg]'hp7, List.getElem?_eq_getElem hp7⟩
  have hcm := List.mem_of_getElem? hc
  have hcb : c ∉ ([43, 45] : List Nat) ∧ c < 1000 := by
    simp only [badL, List.mem_cons, List.not_mem_nil, or_false] at hcm
    rcases hcm with rfl | rfl | rfl | rfl | rfl | rfl | rfl <;> exact ⟨by decide, by decide⟩
  have ixs := v_ixS (a := badL) (by simp; omega) hc
  have s1 := v_takeS (a := cs) (by omega) (z := (at_ : Int)) (k := at_) rfl
  have s2 := v_dropS (a := cs) (by omega) (z := (at_ : Int) + 1) (k := at_ + 1) (by push_cast; rfl)
  have a1 := v_addS (a := cs.take at_) (b := [c]) (by simp; omega)
  have a2 := v_addS (a := cs.take at_ ++ [c]) (b := cs.drop (at_ + 1)) (by simp; omega)
  have a3 := v_addS (a := cs) (b := [43]) (by simp; omega)
  have s3 := v_dropS (a := cs) (by omega) (z := 1) (k := 1) rfl
  -- odd
  have hodd : ixD (.lst [.int (size : Int), .int (-1), .int (10 ^ 20), .int (-(size : Int) - 1)]) (.int (od : Int)) = some (.val (.int (oddF size od))) := by
    rw [v_ix1]
    have : od = 0 ∨ od = 1 ∨ od = 2 ∨ od = 3 := by omega
    rcases this with rfl | rfl | rfl | rfl <;> rfl
  have hpow : oPow (.int 10) (.int 20) = some (.val (.int (10 ^ 20))) := by
    show (if powOk 10 20 then vI (10 ^ (20 : Int).toNat) else none) = _
    rw [if_pos (by decide)]; rfl
  have hout := oddF_out (size := size) (by omega) od
  generalize oddF size od = x at hodd hout
  generalize (10 : Int) ^ 20 = p20 at hodd hpow
  -- the row
  have r1 := v_take (nD ring) (z := (sp : Int)) (k := sp) rfl
  have r2 := v_drop (nD ring) (z := (sp : Int)) (k := sp) rfl
  have r3 := v_addL (xs := (nD ring).take sp) (ys := [.int x]) (by simp [nD]; omega)
  have r4 := v_addL (xs := (nD ring).take sp ++ [.int x]) (ys := (nD ring).drop sp) (by simp [nD]; omega)
  have r5 := v_addL (xs := (nD ring).take sp ++ [.int x] ++ (nD ring).drop sp) (ys := [.int ((size : Int) + 7)]) (by simp [nD]; omega)
  have hrow : (nD ring).take sp ++ [.int x] ++ (nD ring).drop sp ++ [.int ((size : Int) + 7)] = ((nZ ring).take sp ++ x :: ((nZ ring).drop sp ++ [(size : Int) + 7])).map D.int := by rw [nD_z]; simp
  rw [hrow] at r5
  have hlr : (nD ring).length = ring.length := by simp [nD]
  -- what is told
  have fe : ∀ S, RowA ((nZ ring).take sp ++ x :: ((nZ ring).drop sp ++ [(size : Int) + 7])) (.bor (.lst (((nZ ring).take sp ++ x :: ((nZ ring).drop sp ++ [(size : Int) + 7])).map D.int))) S → callF tb (m + 4) "_law_fate" [.val (.int 2), .val (gO n E t), .val (.str (mkS cs)), .bor (.lst (((nZ ring).take sp ++ x :: ((nZ ring).drop sp ++ [(size : Int) + 7])).map D.int))] = .ok (.val (.tup [.str "edge", .int x])) := fun S hS => by
    have sb := ev_showsR_bad m (n := n) (t := t) h hg (by omega) ((nZ ring).take sp) ((nZ ring).drop sp ++ [(size : Int) + 7]) x (fun y hy => by
      obtain ⟨k, hk, rfl⟩ := List.mem_map.mp (List.mem_of_mem_take hy)
      have := hr k hk
      omega) (by rw [← hsz]; exact hout) hS
    have ct := called_two (m + 2) (G := gO n E t) (M := mkS cs) hS
    rw [sb] at ct
    rcases ct with ct | ct | ⟨d, ct⟩
    · exact fate_edge (m + 3) hS ct
    · cases ct
    · cases ct
  have fe := fe _ RowA.bl
  have ft : ∀ (q : Rv) (S : Sl), RowA (nZ ring) q S → callF tb (m + 4) "_law_fate" [.val (.int 2), .val (gO n E t), .val (.str (mkS cs)), q] = .ok (.val (.tup [.str "told"])) := fun q S hS => by
    have sb := ev_showsR m (n := n) (t := t) hE h hg (by omega) hr (by omega) hS
    have ct := called_two (m + 2) (G := gO n E t) (M := mkS cs) hS
    rw [sb] at ct
    rcases ct with ct | ct | ⟨d, ct⟩
    · exact fate_told (m + 3) hS ct
    · cases ct
    · cases ct
  have ft1 := ft _ _ RowA.vl
  have ft2 := ft _ _ RowA.bl
  rw [← nD_z] at ft1 ft2
  have ake : Alk (m + 4) (.tup [.str "edge", .int x]) := alk_tup (m + 2) (by simp) fun d hd => by
    simp only [List.mem_cons, List.not_mem_nil, or_false] at hd
    rcases hd with rfl | rfl
    · exact alk_str _ ok_edg
    · exact alk_int _ _
  have akt : Alk (m + 4) (.tup [.str "told"]) := alk_tup (m + 2) (by simp) fun d hd => by
    simp only [List.mem_cons, List.not_mem_nil, or_false] at hd
    subst hd
    exact alk_str _ ok_tld
  unfold Alk at ake akt
  -- the texts
  have lt43 : ∀ c ∈ cs ++ [43], c < 1000 := fun y hy => by
    rcases List.mem_append.mp hy with hy | hy
    · exact hlt y hy
    · simp at hy; subst hy; decide
  have ltb : ∀ y ∈ cs.take at_ ++ [c] ++ cs.drop (at_ + 1), y < 1000 := fun y hy => by
    rcases List.mem_append.mp hy with hy | hy
    · rcases List.mem_append.mp hy with hy | hy
      · exact hlt y (List.mem_of_mem_take hy)
      · simp at hy; subst hy; exact hcb.2
    · exact hlt y (List.mem_of_mem_drop hy)
  have t1 : (cs ++ [43]).length ≤ 1000 ∧ (∀ c ∈ cs ++ [43], c < 1000) ∧ goodS (cs ++ [43]) E.length = false := ⟨by simp; omega, lt43, gS_len (by simp; omega)⟩
  have t2 : (cs.take at_ ++ [c] ++ cs.drop (at_ + 1)).length ≤ 1000 ∧ (∀ y ∈ cs.take at_ ++ [c] ++ cs.drop (at_ + 1), y < 1000) ∧ goodS (cs.take at_ ++ [c] ++ cs.drop (at_ + 1)) E.length = false := ⟨by simp; omega, ltb, gS_mem (c := c) (by simp) hcb.1⟩
  have t3 : 0 < size → (cs.drop 1).length ≤ 1000 ∧ (∀ y ∈ cs.drop 1, y < 1000) ∧ goodS (cs.drop 1) E.length = false := fun h0 => ⟨by simp; omega, fun y hy => hlt y (List.mem_of_mem_drop hy), gS_len (by simp; omega)⟩
  generalize cs.take at_ ++ [c] ++ cs.drop (at_ + 1) = bent at a2 t2
  generalize cs.drop 1 = cut at s3 t3
  generalize cs ++ [43] = plus at a3 t1
  rw [← hsz]
  have o2 := rf_outer m (n := n) (E := E) (t := t) [plus, bent] (fun tx hx => by
    simp only [List.mem_cons, List.not_mem_nil, or_false] at hx
    rcases hx with rfl | rfl
    · exact t1
    · exact t2) ((nZ ring).take sp ++ x :: ((nZ ring).drop sp ++ [(size : Int) + 7]))
  have o3 := fun h0 : 0 < size => rf_outer m (n := n) (E := E) (t := t) [plus, bent, cut] (fun tx hx => by
    simp only [List.mem_cons, List.not_mem_nil, or_false] at hx
    rcases hx with rfl | rfl | rfl
    · exact t1
    · exact t2
    · exact t3 h0) ((nZ ring).take sp ++ x :: ((nZ ring).drop sp ++ [(size : Int) + 7]))
  have hap := ev_appD (d := .str (mkS cut)) (xs := [D.str (mkS plus), D.str (mkS bent)]) (by simp; omega)
  unfold rfI at o2 o3
  generalize hRW : ((nZ ring).take sp ++ x :: ((nZ ring).drop sp ++ [(size : Int) + 7])).map D.int = RW at r5 fe o2 o3
  simp only [List.map_cons, List.map_nil] at o2 o3
  generalize (nD ring).take sp ++ [.int x] ++ (nD ring).drop sp = R4 at r4 r5
  generalize (nD ring).take sp ++ [.int x] = R3 at r3 r4
  generalize (nD ring).take sp = R1 at r1 r3
  generalize (nD ring).drop sp = R2 at r2 r4
  generalize nD ring = RD at r1 r2 hlr ft1 ft2 hq
  generalize mkS (cs.take at_ ++ [c]) = B1 at a1 a2
  generalize mkS (cs.take at_) = B0 at s1 a1
  generalize mkS (cs.drop (at_ + 1)) = B2 at s2 a2
  generalize mkS bent = BT at a2 hap o2 o3
  have n0 : ∀ k : Nat, (k : Int) = 0 → k = 0 := fun k h => by omega
  rw [call_fn tb__law_refused rfl]
  generalize gO n E t = G at fe ft1 ft2 o2 o3 ⊢
  generalize mkS cs = M at s1 s2 s3 a3 fe ft1 ft2 ⊢
  generalize mkS plus = PL at a3 hap o2 o3
  generalize mkS cut = CU at s3 hap o3
  generalize mkS [c] = SG at ixs a1
  by_cases h0 : 0 < size
  · have o3 := o3 h0
    rcases hq with rfl | rfl
    · obtain ⟨t12, t13, e⟩ := o3 (.val (.int size)) (.val (.str M)) (.val (.lst RD)) (.val (.int cell)) (.val (.int at_)) (.val (.str SG)) (.val (.str BT)) (.bor (.lst [.str PL, .str BT, .str CU])) (.val (.int x)) (.val (.int sp))
      simp [-Int.natCast_ediv, -Int.natCast_emod, -Int.natCast_add, FI__law_refused, B__law_refused, hmx, f1, f2, f3, f4, f5, f6, f7, hr1, hm0, l_bad, l_plus, ixs, s1, s2, s3, a1, a2, a3, hz1, hz2, hz4, h0, hap, hpow, hodd, hlr, r1, r2, r3, r4, r5, e, fe, ft1, ft2, ake, akt, divOk]
    · obtain ⟨t12, t13, e⟩ := o3 (.val (.int size)) (.val (.str M)) (.bor (.lst RD)) (.val (.int cell)) (.val (.int at_)) (.val (.str SG)) (.val (.str BT)) (.bor (.lst [.str PL, .str BT, .str CU])) (.val (.int x)) (.val (.int sp))
      simp [-Int.natCast_ediv, -Int.natCast_emod, -Int.natCast_add, FI__law_refused, B__law_refused, hmx, f1, f2, f3, f4, f5, f6, f7, hr1, hm0, l_bad, l_plus, ixs, s1, s2, s3, a1, a2, a3, hz1, hz2, hz4, h0, hap, hpow, hodd, hlr, r1, r2, r3, r4, r5, e, fe, ft1, ft2, ake, akt, divOk]
  · rcases hq with rfl | rfl
    · obtain ⟨t12, t13, e⟩ := o2 (.val (.int size)) (.val (.str M)) (.val (.lst RD)) (.val (.int cell)) (.val (.int at_)) (.val (.str SG)) (.val (.str BT)) (.bor (.lst [.str PL, .str BT])) (.val (.int x)) (.val (.int sp))
      simp [-Int.natCast_ediv, -Int.natCast_emod, -Int.natCast_add, FI__law_refused, B__law_refused, hmx, f1, f2, f3, f4, f5, f6, f7, hr1, hm0, l_bad, l_plus, ixs, s1, s2, s3, a1, a2, a3, hz1, hz2, hz4, h0, hap, hpow, hodd, hlr, r1, r2, r3, r4, r5, e, fe, ft1, ft2, ake, akt, divOk]
    · obtain ⟨t12, t13, e⟩ := o2 (.val (.int size)) (.val (.str M)) (.bor (.lst RD)) (.val (.int cell)) (.val (.int at_)) (.val (.str SG)) (.val (.str BT)) (.bor (.lst [.str PL, .str BT])) (.val (.int x)) (.val (.int sp))
      simp [-Int.natCast_ediv, -Int.natCast_emod, -Int.natCast_add, FI__law_refused, B__law_refused, hmx, f1, f2, f3, f4, f5, f6, f7, hr1, hm0, l_bad, l_plus, ixs, s1, s2, s3, a1, a2, a3, hz1, hz2, hz4, h0, hap, hpow, hodd, hlr, r1, r2, r3, r4, r5, e, fe, ft1, ft2, ake, akt, divOk]
end W
end
section
set_option maxRecDepth 100000
/-! F17: k56, graphs made. -/
namespace W
open PySem L2 PyProof.Rows CI
theorem txt_len (sep : Str) : ∀ l : List Str, (Txt.join sep l).length ≤ (l.map (·.length)).sum + l.length * sep.length := by
  intro l
  show (Builtin.Str.glued sep l).length ≤ _
  rw [StrLaws.glued_eq_join]
  induction l with
  | nil => simp [Str.join, Str.empty, Str.length]
  | cons a r ih =>
    cases r with
    | nil => simp [Str.join]
    | cons b r =>
      have e : Str.join sep (a :: b :: r) = a ++ sep ++ Str.join sep (b :: r) := rfl
      rw [e, Str.length_append, Str.length_append]
      simp only [List.map_cons, List.sum_cons, List.length_cons] at ih ⊢
      simp only [Nat.add_mul, Nat.one_mul] at ih ⊢
      omega
theorem q_nodes (v : D) : putD "Graph" "nodes" v (.obj "Graph" []) = some (.obj "Graph" [("nodes", v)]) := by kernel_rfl
theorem q_edges (u v : D) : putD "Graph" "edges" v (.obj "Graph" [("nodes", u)]) = some (.obj "Graph" [("nodes", u), ("edges", v)]) := by kernel_rfl
theorem q_size (a b v : D) : putD "Graph" "size" v (.obj "Graph" [("nodes", a), ("edges", b)]) = some (.obj "Graph" [("nodes", a), ("edges", b), ("size", v)]) := by kernel_rfl
theorem q_text (a b c v : D) : putD "Graph" "text" v (.obj "Graph" [("nodes", a), ("edges", b), ("size", c)]) = some (.obj "Graph" [("nodes", a), ("edges", b), ("size", c), ("text", v)]) := by kernel_rfl
theorem ev_fldS (i : Nat) (c f : Str) (e : Mn Rv) (ρ : En) : (cFldS i c f e) ρ = (bnd (cV e) fun d => bnd (mutU i (putD c f d)) fun _ => ret .nx) ρ := rfl
theorem ev_chn (f g : D → D → Option Rv) (a b c : Mn Rv) (ρ : En) : (cChain f g a b c) ρ = (bnd a fun x => bnd b fun y => bnd (ofO (blR (f x.d y.d))) fun k => if k = true then bnd c fun z => ofO (g y.d z.d) else CI.ret (.val (.bl false))) ρ := by exact Eq.trans rfl rfl
def iS (i : Int) : Str := ((toString i : String) : Str)
theorem i_ok {i : Nat} (h : i ≤ 10) : gStr (.int (i : Int)) = some (.val (.str (iS i))) ∧ fmtD (.int (i : Int)) = some (iS i) ∧ (iS i).length ≤ 2 := by
  have : i = 0 ∨ i = 1 ∨ i = 2 ∨ i = 3 ∨ i = 4 ∨ i = 5 ∨ i = 6 ∨ i = 7 ∨ i = 8 ∨ i = 9 ∨ i = 10 := by omega
  rcases this with rfl | rfl | rfl | rfl | rfl | rfl | rfl | rfl | rfl | rfl | rfl <;> exact ⟨rfl, rfl, by decide +kernel⟩
theorem strs_map {β : Type} (g : β → Str) : ∀ l : List β, strsD (l.map fun x => D.str (g x)) = some (l.map g)
  | [] => rfl
  | a :: l => by
    show (strsD (l.map fun x => D.str (g x))).map (g a :: ·) = _
    rw [strs_map g l]; rfl
theorem sum_le {β : Type} (g : β → Str) (k : Nat) : ∀ l : List β, (∀ x ∈ l, (g x).length ≤ k) → ((l.map g).map (·.length)).sum ≤ l.length * k
  | [], _ => by simp
  | a :: l, h => by
    have := sum_le g k l fun x hx => h x (List.mem_cons_of_mem _ hx)
    have h2 := h a List.mem_cons_self
    simp only [List.map_cons, List.sum_cons, List.length_cons, Nat.add_mul, Nat.one_mul]
    omega
theorem join_ok {β : Type} (g : β → Str) (l : List β) (h : ∀ x ∈ l, (g x).length ≤ 10) (hl : l.length ≤ 100) : joinD (.str "") (.lst (l.map fun x => D.str (g x))) = some (.val (.str (Txt.join "" (l.map g)))) := by
  have h1 := sum_le g 10 l h
  have h4 : l.length * 10 ≤ 1000 := by omega
  have e0 : (("" : String) : Str).length = 0 := by decide +kernel
  show (((some (l.map fun x => D.str (g x))).bind strsD).bind _) = _
  rw [Option.bind_some, strs_map, Option.bind_some, if_pos (by rw [e0, List.length_map]; omega)]
  rfl
def edT (p : Nat × Nat) : Str := Str.empty ++ ((" " : String) : Str) ++ iS p.1 ++ iS p.2
theorem edT_len {p : Nat × Nat} (h1 : p.1 ≤ 10) (h2 : p.2 ≤ 10) : (edT p).length ≤ 10 := by
  have a := (i_ok h1).2.2
  have b := (i_ok h2).2.2
  have e0 : Str.empty.length = 0 := rfl
  have e1 : ((" " : String) : Str).length = 1 := by decide +kernel
  unfold edT
  rw [Str.length_append, Str.length_append, Str.length_append]
  omega
noncomputable def gcB : Mn Fl := (cIfS (cNot (cAnd (cTst (cChain oLe oLt (cCst (.int 0)) (cVar 3) (cVar 1))) (cTst (cChain oLe oLt (cCst (.int 0)) (cVar 4) (cVar 1)))))
    (cRseF ("BadEdge" : Str) ("edge" : Str) gTupl (cCons (cA (cTup (cCons (cV (cFrz 3)) (cCons (cV (cFrz 4)) cNil)))) cNil))
    cPass)
theorem gc_loop {n : Nat} (S0 S2 : Sl) : ∀ (E : List (Nat × Nat)) (s3 s4 : Sl), QA.In n E → okOwn [s3, s4] [0, 1] = true → ∃ s3' s4', okOwn [s3', s4'] [0, 1] = true ∧ forL (tTup [(tNm 3), (tNm 4)]) gcB (E.map eD) [S0, .val (.int n), S2, s3, s4] = .ok .nx [S0, .val (.int n), S2, s3', s4']
  | [], s3, s4, _, h => ⟨s3, s4, h, rfl⟩
  | a :: E, s3, s4, hE, h => by
    obtain ⟨h1, h2⟩ := hE a List.mem_cons_self
    have e : gcB [S0, .val (.int n), S2, .val (.int a.1), .val (.int a.2)] = .ok .nx [S0, .val (.int n), S2, .val (.int a.1), .val (.int a.2)] := by
      simp [gcB, cChain, blR, h1, h2]
    rw [List.map_cons, forL_cnx (t := tTup [(tNm 3), (tNm 4)]) (body := gcB) (ρ := [S0, .val (.int n), S2, s3, s4]) (ρ1 := [S0, .val (.int n), S2, .val (.int a.1), .val (.int a.2)]) (by simp [eD]) (.inl e)]
    exact gc_loop S0 S2 E _ _ (fun b hb => hE b (List.mem_cons_of_mem _ hb)) rfl
theorem g_comp {E : List (Nat × Nat)} (hl : E.length ≤ 10) (S0 S1 S2 s3 s4 : Sl) (hS : S2 = .val (.lst (E.map eD)) ∨ S2 = .bor (.lst (E.map eD))) (hk : okOwn [s3, s4] [0, 1] = true) (elt : Mn Rv) (g : Nat × Nat → D)
    (he : ∀ a ∈ E, cV elt [S0, S1, S2, .val (.int (a.1 : Nat)), .val (.int (a.2 : Nat))] = .ok (g a) [S0, S1, S2, .val (.int (a.1 : Nat)), .val (.int (a.2 : Nat))]) :
    cLc (ciVarY 2) (.tup [(.nm 3), (.nm 4)]) cYes elt [3, 4] [S0, S1, S2, s3, s4] = .ok (.own (.lst (E.map g))) [S0, S1, S2, s3, s4] := by
  have hs : sizeLine = 16777216 := sizeLine_eq
  have lc := ev_lcG (β := Nat × Nat) (it := ciVarY 2) (t := .tup [(.nm 3), (.nm 4)]) (cond := cYes) (elt := elt) (vs := [3, 4]) (xs := E) (ρ := [S0, S1, S2, s3, s4]) (ρ1 := [S0, S1, S2, s3, s4]) [S0, S1, S2, .emp, .emp] eD (fun _ => true) g
    (fun a => [S0, S1, S2, .val (.int (a.1 : Nat)), .val (.int (a.2 : Nat))]) (by rcases hS with rfl | rfl <;> simp) (by simpa [okOwn, Tn.ix, Tn.ixs] using hk) rfl rfl (by omega) fun a ha => ⟨rfl, rfl, rfl, fun _ => he a ha⟩
  rw [lc, List.filter_eq_self.mpr fun _ _ => rfl]
theorem ev_graph (m : Nat) {n : Nat} {E : List (Nat × Nat)} (hE : QA.In n E) (hl : E.length ≤ 10) (hn : n ≤ 10) (q : Rv) (hq : q = .val (.lst (E.map eD)) ∨ q = .bor (.lst (E.map eD))) :
    ∃ t, callF tb (m + 1) "Graph" [.val (.int n), q] = .ok (.val (gO n E t)) := by
  have hs : sizeLine = 16777216 := sizeLine_eq
  have hz : sz 2 = true := sz_ok (by omega)
  have key : ∀ S2 : Sl, (S2 = .val (.lst (E.map eD)) ∨ S2 = .bor (.lst (E.map eD))) → ∃ t, initEnd "Graph" (B_Graph (callF tb m) [.own (.obj "Graph" []), .val (.int n), S2, .emp, .emp]) = .ok (.val (gO n E t)) := fun S2 hS => by
    obtain ⟨s3, s4, hk, e0⟩ := gc_loop (n := n) (.own (.obj "Graph" [])) S2 E .emp .emp hE rfl
    obtain ⟨O1, hO1⟩ : ∃ O : D, O = .obj "Graph" [("nodes", .int n)] := ⟨_, rfl⟩
    obtain ⟨O2, hO2⟩ : ∃ O : D, O = .obj "Graph" [("nodes", .int n), ("edges", .tup (E.map eD))] := ⟨_, rfl⟩
    obtain ⟨O3, hO3⟩ : ∃ O : D, O = .obj "Graph" [("nodes", .int n), ("edges", .tup (E.map eD)), ("size", .int E.length)] := ⟨_, rfl⟩
    have p1 : putD "Graph" "nodes" (.int n) (.obj "Graph" []) = some O1 := by rw [hO1]; exact q_nodes _
    have p2 : putD "Graph" "edges" (.tup (E.map eD)) O1 = some O2 := by rw [hO1, hO2]; exact q_edges _ _
    have p3 : putD "Graph" "size" (.int E.length) O2 = some O3 := by rw [hO2, hO3]; exact q_size _ _ _
    have p4 : ∀ t, putD "Graph" "text" (.str t) O3 = some (gO n E t) := fun t => by rw [hO3]; exact q_text _ _ _ _
    have c1 := g_comp hl (.own O1) (.val (.int n)) S2 s3 s4 hS hk (cTup (cCons (cV (cFrz 3)) (cCons (cV (cFrz 4)) cNil))) eD fun a ha => by simp [hz, eD]
    have hej : ∀ a ∈ E, cFStr [(cTxt (cCst (.str " "))), (cFmt (cVar 3)), (cFmt (cVar 4))] [.own O3, .val (.int n), S2, .val (.int (a.1 : Nat)), .val (.int (a.2 : Nat))] = .ok (.val (.str (edT a))) [.own O3, .val (.int n), S2, .val (.int (a.1 : Nat)), .val (.int (a.2 : Nat))] := fun a ha => by
      obtain ⟨h1, h2⟩ := hE a ha
      have f1 := (i_ok (i := a.1) (by omega)).2
      have f2 := (i_ok (i := a.2) (by omega)).2
      have e0 : Str.empty.length = 0 := rfl
      have e1 : ((" " : String) : Str).length = 1 := by decide +kernel
      have z1 : sz (Str.empty ++ ((" " : String) : Str)).length = true := sz_ok (by rw [Str.length_append]; omega)
      have z2 : sz (Str.empty ++ ((" " : String) : Str) ++ iS a.1).length = true := sz_ok (by rw [Str.length_append, Str.length_append]; omega)
      have z3 : sz (Str.empty ++ ((" " : String) : Str) ++ iS a.1 ++ iS a.2).length = true := sz_ok (by rw [Str.length_append, Str.length_append, Str.length_append]; omega)
      simp [cFStr, cJs, cFmt, cTxt, f1.1, f2.1, strD, z1, z2, z3, edT]
    have c2 := g_comp hl (.own O3) (.val (.int n)) S2 s3 s4 hS hk (cFStr [(cTxt (cCst (.str " "))), (cFmt (cVar 3)), (cFmt (cVar 4))]) (fun a => .str (edT a)) fun a ha => by
      have := hej a ha
      simp [this]
    have hj := join_ok edT E (fun a ha => by
      obtain ⟨h1, h2⟩ := hE a ha
      exact edT_len (by omega) (by omega)) (by omega)
    have gi := i_ok hn
    have lco : ((":" : String) : Str).length = 1 := by decide +kernel
    have ad1 : oAdd (.str (iS n)) (.str ":") = some (.val (.str (iS n ++ ((":" : String) : Str)))) := by
      have : sz ((iS n).length + ((":" : String) : Str).length) = true := sz_ok (by have := gi.2.2; omega)
      show (if sz _ = true then _ else _) = _
      rw [if_pos this]; rfl
    obtain ⟨J, hJ⟩ : ∃ J, J = Txt.join "" (E.map edT) := ⟨_, rfl⟩
    rw [← hJ] at hj
    have hJl : J.length ≤ 1000 := by
      have h1 := sum_le edT 10 E fun a ha => by
        obtain ⟨h1, h2⟩ := hE a ha
        exact edT_len (by omega) (by omega)
      have h2 := txt_len ("" : Str) (E.map edT)
      have e0 : (("" : String) : Str).length = 0 := by decide +kernel
      rw [hJ]
      rw [e0] at h2
      omega
    have ad2 : oAdd (.str (iS n ++ ((":" : String) : Str))) (.str J) = some (.val (.str (iS n ++ ((":" : String) : Str) ++ J))) := by
      have : sz ((iS n ++ ((":" : String) : Str)).length + J.length) = true := sz_ok (by rw [Str.length_append]; have := gi.2.2; omega)
      show (if sz _ = true then _ else _) = _
      rw [if_pos this]; rfl
    have hst : isStr (.str "") = true := rfl
    have lk : ∀ {α : Type} (c : Mn α) (a b u w : Sl), cLock 2 c [a, b, S2, u, w] = c [a, b, S2, u, w] := fun c a b u w => by rcases hS with rfl | rfl <;> rfl
    have hlen : (E.map eD).length = E.length := by simp
    have d1 : ¬ (10 : Int) < (E.length : Int) := by omega
    refine ⟨iS n ++ ((":" : String) : Str) ++ J, ?_⟩
    have it : ∀ a b u w : Sl, ciVarY 2 [a, b, S2, u, w] = .ok (E.map eD) [a, b, S2, u, w] := fun a b u w => by rcases hS with rfl | rfl <;> simp
    have ln : ∀ a b u w : Sl, cBlt (uD gLen) (cCons (cA (cVar 2)) cNil) [a, b, S2, u, w] = .ok (.val (.int E.length)) [a, b, S2, u, w] := fun a b u w => by rcases hS with rfl | rfl <;> simp
    unfold gcB at e0
    have fin : B_Graph (callF tb m) [.own (.obj "Graph" []), .val (.int n), S2, .emp, .emp] = .ok .nx [.own (gO n E (iS n ++ ((":" : String) : Str) ++ J)), .val (.int n), S2, s3, s4] := by
      have g1 := gi.1
      have p4' := p4 (iS n ++ ((":" : String) : Str) ++ J)
      generalize gO n E (iS n ++ ((":" : String) : Str) ++ J) = G at p4' ⊢
      have t1 : ∀ a u w : Sl, cBlt (uD gTuple) (cCons (cA (cLock 2 (cLc (ciVarY 2) (.tup [(.nm 3), (.nm 4)]) cYes (cTup (cCons (cV (cFrz 3)) (cCons (cV (cFrz 4)) cNil))) [3, 4]))) cNil) [.own O1, .val (.int n), S2, s3, s4] = .ok (.val (.tup (E.map eD))) [.own O1, .val (.int n), S2, s3, s4] := fun _ _ _ => by simp [lk, c1]
      have t1 := t1 .emp .emp .emp
      have t2 : cBlt (uD gStr) (cCons (cA (cVar 1)) cNil) [.own O3, .val (.int n), S2, s3, s4] = .ok (.val (.str (iS n))) [.own O3, .val (.int n), S2, s3, s4] := by simp [g1]
      have t3 : cM1 joinD (cCst (.str "")) (cLock 2 (cLc (ciVarY 2) (.tup [(.nm 3), (.nm 4)]) cYes (cFStr [(cTxt (cCst (.str " "))), (cFmt (cVar 3)), (cFmt (cVar 4))]) [3, 4])) [.own O3, .val (.int n), S2, s3, s4] = .ok (.val (.str J)) [.own O3, .val (.int n), S2, s3, s4] := by simp [lk, c2, hj]
      generalize E.map eD = ED at *
      generalize iS n = IN at *
      have hle : n ≤ 10 := hn
      have hle2 : ¬ (10 : Int) < (n : Int) := by omega
      simp [B_Graph, ev_chn, blR, hle, hle2, ln, d1, lk, it, e0, ev_fldS, p1, p2, p3, p4', t1, t2, t3, ad1, ad2, -ev_blt, -ev_m1]
    rw [fin]
    rfl
  rcases hq with rfl | rfl
  · rw [call_init tb_Graph rfl]
    exact key _ (.inl rfl)
  · rw [call_init tb_Graph rfl]
    exact key _ (.inr rfl)
end W
end
section
set_option maxRecDepth 100000
/-! F18: k56, bent rows. -/
namespace W
open PySem L2 PyProof.Rows CI
theorem ev_bentO (m : Nat) {n : Nat} {O : List Nat} (hO : O.length = n) (h1 : 1 ≤ n) (hn : n ≤ 10) (cell : Nat) :
    ∃ rows : List (List Int), (∀ r ∈ rows, r.length ≤ 1000) ∧ callF tb (m + 1) "_law_bent_orders" [.val (.int n), .val (.lst (nD O)), .val (.int cell)] = .ok (.own (.lst (rows.map lI))) := by
  have hs : sizeLine = 16777216 := sizeLine_eq
  have hz3 : sz 3 = true := sz_ok (by omega)
  have hz1 : sz 1 = true := sz_ok (by omega)
  have hz5 : sz 5 = true := sz_ok (by omega)
  have f1 : (cell : Int).fmod (n : Int) = ((cell % n : Nat) : Int) := fmodN cell n
  have f2 : (cell : Int).fdiv 10 = ((cell / 10 : Nat) : Int) := fdivN cell 10
  have f3 : ((cell / 10 : Nat) : Int).fmod (n : Int) = ((cell / 10 % n : Nat) : Int) := fmodN _ n
  have p1 : cell % n < n := Nat.mod_lt _ (by omega)
  have p2 : cell / 10 % n < n := Nat.mod_lt _ (by omega)
  generalize cell % n = a at f1 p1
  generalize cell / 10 % n = b at f3 p2
  have d10 : divOk 10 = true := by decide
  have hn0 : ¬ n = 0 := by omega
  rw [nD_z]
  have hl : (nZ O).length = n := by simp [nZ, hO]
  generalize nZ O = Z at hl ⊢
  obtain ⟨u, hu⟩ : ∃ u, Z[a]? = some u := ⟨_, List.getElem?_eq_getElem (by omega)⟩
  obtain ⟨w, hw⟩ : ∃ w, Z[b]? = some w := ⟨_, List.getElem?_eq_getElem (by omega)⟩
  have x1 : ixD (.lst (Z.map .int)) (.int (a : Int)) = some (.val (.int u)) := by rw [v_ix1, List.getElem?_map, hu]; rfl
  have x2 : ixD (.lst (Z.map .int)) (.int (b : Int)) = some (.val (.int w)) := by rw [v_ix1, List.getElem?_map, hw]; rfl
  have g1 : setD (.int (a : Int)) (.int w) (.lst (Z.map .int)) = some (.lst ((Z.set a w).map .int)) := by rw [ev_setD (by simp; omega), List.map_set]
  have g2 : setD (.int (b : Int)) (.int u) (.lst ((Z.set a w).map .int)) = some (.lst (((Z.set a w).set b u).map .int)) := by rw [ev_setD (by simp; omega), List.map_set (l := Z.set a w)]
  have hpow : oPow (.int 10) (.int 20) = some (.val (.int (10 ^ 20))) := by
    show (if powOk 10 20 then vI (10 ^ (20 : Int).toNat) else none) = _
    rw [if_pos (by decide)]; rfl
  generalize (10 : Int) ^ 20 = p20 at hpow
  have rv : gRev (.lst (Z.map .int)) = some (.own (.lst (Z.reverse.map .int))) := by rw [v_rev, List.map_reverse]
  have ad : ∀ (y : Int), oAdd (.lst (Z.map .int)) (.lst [.int y]) = some (.own (.lst ((Z ++ [y]).map .int))) := fun y => by rw [v_addL (by simp; omega)]; simp
  have tk : slD (.lst (Z.map .int)) none (some (a : Int)) = some (.own (.lst ((Z.take a).map .int))) := by rw [v_take _ rfl, List.map_take]
  have dr : slD (.lst (Z.map .int)) (some ((a : Int) + 1)) none = some (.own (.lst ((Z.drop (a + 1)).map .int))) := by rw [v_drop _ (k := a + 1) (by push_cast; rfl), List.map_drop]
  have a3 : oAdd (.lst ((Z.take a).map .int)) (.lst ((Z.drop (a + 1)).map .int)) = some (.own (.lst ((Z.take a ++ Z.drop (a + 1)).map .int))) := by rw [v_addL (by simp; omega), ← List.map_append]
  have a4 : ∀ y : Int, oAdd (.lst ((Z.take a).map .int)) (.lst [.int y]) = some (.own (.lst ((Z.take a ++ [y]).map .int))) := fun y => by rw [v_addL (by simp; omega)]; simp
  have a5 : ∀ y : Int, oAdd (.lst ((Z.take a ++ [y]).map .int)) (.lst ((Z.drop (a + 1)).map .int)) = some (.own (.lst ((Z.take a ++ [y] ++ Z.drop (a + 1)).map .int))) := fun y => by rw [v_addL (by simp; omega), ← List.map_append]
  refine ⟨[Z, (Z.set a w).set b u, Z.set a w, Z.reverse, [], Z ++ [u], Z ++ [(n : Int)], Z.take a ++ Z.drop (a + 1), Z.take a ++ [(n : Int)] ++ Z.drop (a + 1), Z.take a ++ [-1] ++ Z.drop (a + 1), Z.take a ++ [p20] ++ Z.drop (a + 1)], fun r hr => ?_, ?_⟩
  · simp only [List.mem_cons, List.not_mem_nil, or_false] at hr
    rcases hr with rfl | rfl | rfl | rfl | rfl | rfl | rfl | rfl | rfl | rfl | rfl <;> first | omega | (simp; done) | (simp; omega)
  · have hap : ∀ (xs : List D) (d : D), xs.length ≤ 100 → appD d (.lst xs) = some (.lst (xs ++ [d])) := fun xs d h => ev_appD (by omega)
    have b5 := hap [.lst (Z.map .int), .lst (((Z.set a w).set b u).map .int), .lst ((Z.set a w).map .int), .lst (Z.reverse.map .int), .lst []] (.lst ((Z ++ [u]).map .int)) (by simp)
    have b6 := hap [.lst (Z.map .int), .lst (((Z.set a w).set b u).map .int), .lst ((Z.set a w).map .int), .lst (Z.reverse.map .int), .lst [], .lst ((Z ++ [u]).map .int)] (.lst ((Z ++ [(n : Int)]).map .int)) (by simp)
    have b7 := hap [.lst (Z.map .int), .lst (((Z.set a w).set b u).map .int), .lst ((Z.set a w).map .int), .lst (Z.reverse.map .int), .lst [], .lst ((Z ++ [u]).map .int), .lst ((Z ++ [(n : Int)]).map .int)] (.lst ((Z.take a ++ Z.drop (a + 1)).map .int)) (by simp)
    have b8 := hap [.lst (Z.map .int), .lst (((Z.set a w).set b u).map .int), .lst ((Z.set a w).map .int), .lst (Z.reverse.map .int), .lst [], .lst ((Z ++ [u]).map .int), .lst ((Z ++ [(n : Int)]).map .int), .lst ((Z.take a ++ Z.drop (a + 1)).map .int)] (.lst ((Z.take a ++ [(n : Int)] ++ Z.drop (a + 1)).map .int)) (by simp)
    have b9 := hap [.lst (Z.map .int), .lst (((Z.set a w).set b u).map .int), .lst ((Z.set a w).map .int), .lst (Z.reverse.map .int), .lst [], .lst ((Z ++ [u]).map .int), .lst ((Z ++ [(n : Int)]).map .int), .lst ((Z.take a ++ Z.drop (a + 1)).map .int), .lst ((Z.take a ++ [(n : Int)] ++ Z.drop (a + 1)).map .int)] (.lst ((Z.take a ++ [-1] ++ Z.drop (a + 1)).map .int)) (by simp)
    have b10 := hap [.lst (Z.map .int), .lst (((Z.set a w).set b u).map .int), .lst ((Z.set a w).map .int), .lst (Z.reverse.map .int), .lst [], .lst ((Z ++ [u]).map .int), .lst ((Z ++ [(n : Int)]).map .int), .lst ((Z.take a ++ Z.drop (a + 1)).map .int), .lst ((Z.take a ++ [(n : Int)] ++ Z.drop (a + 1)).map .int), .lst ((Z.take a ++ [-1] ++ Z.drop (a + 1)).map .int)] (.lst ((Z.take a ++ [p20] ++ Z.drop (a + 1)).map .int)) (by simp)
    have adu := ad u
    have adn := ad (n : Int)
    have a4n := a4 (n : Int)
    have a4m := a4 (-1)
    have a4p := a4 p20
    have a5n := a5 (n : Int)
    have a5m := a5 (-1)
    have a5p := a5 p20
    rw [call_fn tb__law_bent_orders rfl]
    simp only [List.map_cons, List.map_nil, lI]
    generalize (Z.take a ++ [p20] ++ Z.drop (a + 1)).map D.int = Y10 at *
    generalize (Z.take a ++ [-1] ++ Z.drop (a + 1)).map D.int = Y9 at *
    generalize (Z.take a ++ [(n : Int)] ++ Z.drop (a + 1)).map D.int = Y8 at *
    generalize (Z.take a ++ [p20]).map D.int = Y7 at *
    generalize (Z.take a ++ [-1]).map D.int = Y6 at *
    generalize (Z.take a ++ [(n : Int)]).map D.int = Y5 at *
    generalize (Z.take a ++ Z.drop (a + 1)).map D.int = Y4 at *
    generalize (Z ++ [(n : Int)]).map D.int = Y3 at *
    generalize (Z ++ [u]).map D.int = Y2 at *
    generalize Z.reverse.map D.int = Y1 at *
    generalize ((Z.set a w).set b u).map D.int = X2 at *
    generalize (Z.set a w).map D.int = X1 at *
    generalize (Z.take a).map D.int = T1 at *
    generalize (Z.drop (a + 1)).map D.int = T2 at *
    generalize Z.map D.int = ZD at *
    simp [-Int.natCast_ediv, -Int.natCast_emod, -Int.natCast_add, FI__law_bent_orders, B__law_bent_orders, f1, f2, f3, d10, hn0, x1, x2, g1, g2, rv, hz5, hz3, hz1, adu, adn, tk, dr, a3, a4n, a4m, a4p, a5n, a5m, a5p, hpow, b5, b6, b7, b8, b9, b10, forL]
theorem ev_bentR (m : Nat) {size : Nat} {ring : List Nat} (hr : ∀ e ∈ ring, e < size) (h1 : 1 ≤ ring.length) (hl : ring.length ≤ 20) (hs1 : 1 ≤ size) (hs2 : size ≤ 100) (cell : Nat) :
    ∃ rows : List (List Nat), (∀ r ∈ rows, r.length < 64 ∧ ∀ e ∈ r, e < size) ∧ callF tb (m + 1) "_law_bent_rounds" [.val (.int size), .val (.lst (nD ring)), .val (.int cell)] = .ok (.own (.lst (rows.map lN))) := by
  have hs : sizeLine = 16777216 := sizeLine_eq
  have hz1 : sz 1 = true := sz_ok (by omega)
  have hz2 : sz 2 = true := sz_ok (by omega)
  have hz5 : sz 5 = true := sz_ok (by omega)
  have f1 : (cell : Int).fmod (ring.length : Int) = ((cell % ring.length : Nat) : Int) := fmodN cell _
  have f2 : (cell : Int).fdiv 10 = ((cell / 10 : Nat) : Int) := fdivN cell 10
  have f3 : ((cell / 10 : Nat) : Int).fmod (ring.length : Int) = ((cell / 10 % ring.length : Nat) : Int) := fmodN _ _
  have f4 : (cell : Int).fdiv 100 = ((cell / 100 : Nat) : Int) := fdivN cell 100
  have f5 : ((cell / 100 : Nat) : Int).fmod (size : Int) = ((cell / 100 % size : Nat) : Int) := fmodN _ _
  have p1 : cell % ring.length < ring.length := Nat.mod_lt _ (by omega)
  have p2 : cell / 10 % ring.length < ring.length := Nat.mod_lt _ (by omega)
  have p3 : cell / 100 % size < size := Nat.mod_lt _ (by omega)
  generalize cell % ring.length = a at f1 p1
  generalize cell / 10 % ring.length = b at f3 p2
  generalize cell / 100 % size = o at f5 p3
  have d10 : divOk 10 = true := by decide
  have d100 : divOk 100 = true := by decide
  have hr0 : ¬ ring = [] := fun e => by rw [e] at h1; simp at h1
  have hs0 : ¬ size = 0 := by omega
  obtain ⟨u, hu⟩ : ∃ u, ring[a]? = some u := ⟨_, List.getElem?_eq_getElem p1⟩
  obtain ⟨w, hw⟩ : ∃ w, ring[b]? = some w := ⟨_, List.getElem?_eq_getElem p2⟩
  have hul := hr u (List.mem_of_getElem? hu)
  have hwl := hr w (List.mem_of_getElem? hw)
  have x1 := ix_R hu
  have x2 := ix_R hw
  have hlen : (nD ring).length = ring.length := by simp [nD]
  have g1 : setD (.int (a : Int)) (.int (w : Int)) (.lst (nD ring)) = some (.lst (nD (ring.set a w))) := by rw [ev_setD (by simp [nD]; omega), nD_set]
  have g2 : setD (.int (b : Int)) (.int (u : Int)) (.lst (nD (ring.set a w))) = some (.lst (nD ((ring.set a w).set b u))) := by rw [ev_setD (by simp [nD]; omega), nD_set (ring.set a w)]
  have rv : gRev (.lst (nD ring)) = some (.own (.lst (nD ring.reverse))) := by rw [v_rev]; simp [nD]
  have app : ∀ x y : List Nat, x.length + y.length ≤ 1000 → oAdd (.lst (nD x)) (.lst (nD y)) = some (.own (.lst (nD (x ++ y)))) := fun x y h => by
    rw [v_addL (by simp [nD]; omega)]; simp [nD]
  have n1 : ∀ k : Nat, [D.int (k : Int)] = nD [k] := fun k => rfl
  have n2 : ∀ k j : Nat, [D.int (k : Int), D.int (j : Int)] = nD [k, j] := fun k j => rfl
  have tk : slD (.lst (nD ring)) none (some (a : Int)) = some (.own (.lst (nD (ring.take a)))) := by rw [v_take _ rfl]; simp [nD]
  have dr0 : slD (.lst (nD ring)) (some (a : Int)) none = some (.own (.lst (nD (ring.drop a)))) := by rw [v_drop _ rfl]; simp [nD]
  have dr : slD (.lst (nD ring)) (some ((a : Int) + 1)) none = some (.own (.lst (nD (ring.drop (a + 1))))) := by rw [v_drop _ (k := a + 1) (by push_cast; rfl)]; simp [nD]
  have q1 := app ring ring (by omega)
  have q2 := app (ring.drop a) (ring.take a) (by simp; omega)
  have q3 := app (ring.take a) (ring.drop (a + 1)) (by simp; omega)
  have q4 := app (ring.take a) [o] (by simp; omega)
  have q5 := app (ring.take a ++ [o]) (ring.drop (a + 1)) (by simp; omega)
  have q6 := app ring [u] (by simp; omega)
  rw [← n1] at q4 q6
  have hset : ∀ (l : List Nat) (i x : Nat), (∀ e ∈ l, e < size) → x < size → ∀ e ∈ l.set i x, e < size := fun l i x h hx e he => by
    rcases List.mem_or_eq_of_mem_set he with h2 | h2
    · exact h e h2
    · rw [h2]; exact hx
  have htk : ∀ e ∈ ring.take a, e < size := fun e he => hr e (List.mem_of_mem_take he)
  have hdr : ∀ k, ∀ e ∈ ring.drop k, e < size := fun k e he => hr e (List.mem_of_mem_drop he)
  have happ : ∀ x y : List Nat, (∀ e ∈ x, e < size) → (∀ e ∈ y, e < size) → ∀ e ∈ x ++ y, e < size := fun x y hx hy e he => (List.mem_append.mp he).elim (hx e) (hy e)
  have hone : ∀ k, k < size → ∀ e ∈ [k], e < size := fun k hk e he => by simp at he; rw [he]; exact hk
  refine ⟨[ring, ring.reverse, ring ++ ring, (ring.set a w).set b u, [], ring.drop a ++ ring.take a, ring.take a ++ ring.drop (a + 1), ring.take a ++ [o] ++ ring.drop (a + 1), ring ++ [u], [o], [u, o]], fun r hr2 => ?_, ?_⟩
  · simp only [List.mem_cons, List.not_mem_nil, or_false] at hr2
    rcases hr2 with rfl | rfl | rfl | rfl | rfl | rfl | rfl | rfl | rfl | rfl | rfl
    · exact ⟨by omega, hr⟩
    · exact ⟨by simp; omega, fun e he => hr e (List.mem_reverse.mp he)⟩
    · exact ⟨by simp; omega, happ _ _ hr hr⟩
    · exact ⟨by simp; omega, hset _ _ _ (hset _ _ _ hr hwl) hul⟩
    · exact ⟨by simp, fun e he => by cases he⟩
    · exact ⟨by simp; omega, happ _ _ (hdr a) htk⟩
    · exact ⟨by simp; omega, happ _ _ htk (hdr _)⟩
    · exact ⟨by simp; omega, happ _ _ (happ _ _ htk (hone o p3)) (hdr _)⟩
    · exact ⟨by simp; omega, happ _ _ hr (hone u hul)⟩
    · exact ⟨by simp, hone o p3⟩
    · exact ⟨by simp, happ [u] [o] (hone u hul) (hone o p3)⟩
  · have hap : ∀ (xs : List D) (d : D), xs.length ≤ 100 → appD d (.lst xs) = some (.lst (xs ++ [d])) := fun xs d h => ev_appD (by omega)
    have n0 : nD [] = [] := rfl
    have b5 := hap [.lst (nD ring), .lst (nD ring.reverse), .lst (nD (ring ++ ring)), .lst (nD ((ring.set a w).set b u)), .lst []] (.lst (nD (ring.drop a ++ ring.take a))) (by simp)
    have b6 := hap [.lst (nD ring), .lst (nD ring.reverse), .lst (nD (ring ++ ring)), .lst (nD ((ring.set a w).set b u)), .lst [], .lst (nD (ring.drop a ++ ring.take a))] (.lst (nD (ring.take a ++ ring.drop (a + 1)))) (by simp)
    have b7 := hap [.lst (nD ring), .lst (nD ring.reverse), .lst (nD (ring ++ ring)), .lst (nD ((ring.set a w).set b u)), .lst [], .lst (nD (ring.drop a ++ ring.take a)), .lst (nD (ring.take a ++ ring.drop (a + 1)))] (.lst (nD (ring.take a ++ [o] ++ ring.drop (a + 1)))) (by simp)
    have b8 := hap [.lst (nD ring), .lst (nD ring.reverse), .lst (nD (ring ++ ring)), .lst (nD ((ring.set a w).set b u)), .lst [], .lst (nD (ring.drop a ++ ring.take a)), .lst (nD (ring.take a ++ ring.drop (a + 1))), .lst (nD (ring.take a ++ [o] ++ ring.drop (a + 1)))] (.lst (nD (ring ++ [u]))) (by simp)
    have b9 := hap [.lst (nD ring), .lst (nD ring.reverse), .lst (nD (ring ++ ring)), .lst (nD ((ring.set a w).set b u)), .lst [], .lst (nD (ring.drop a ++ ring.take a)), .lst (nD (ring.take a ++ ring.drop (a + 1))), .lst (nD (ring.take a ++ [o] ++ ring.drop (a + 1))), .lst (nD (ring ++ [u]))] (.lst [.int (o : Int)]) (by simp)
    have b10 := hap [.lst (nD ring), .lst (nD ring.reverse), .lst (nD (ring ++ ring)), .lst (nD ((ring.set a w).set b u)), .lst [], .lst (nD (ring.drop a ++ ring.take a)), .lst (nD (ring.take a ++ ring.drop (a + 1))), .lst (nD (ring.take a ++ [o] ++ ring.drop (a + 1))), .lst (nD (ring ++ [u])), .lst [.int (o : Int)]] (.lst [.int (u : Int), .int (o : Int)]) (by simp)
    rw [call_fn tb__law_bent_rounds rfl]
    simp only [List.map_cons, List.map_nil, lN, n0]
    rw [← n1 o, ← n2 u o]
    generalize nD (ring.take a ++ [o] ++ ring.drop (a + 1)) = Y5 at *
    generalize nD (ring.take a ++ [o]) = Y4 at *
    generalize nD (ring.take a ++ ring.drop (a + 1)) = Y3 at *
    generalize nD (ring.drop a ++ ring.take a) = Y2 at *
    generalize nD (ring ++ ring) = Y1 at *
    generalize nD (ring ++ [u]) = Y6 at *
    generalize nD ((ring.set a w).set b u) = X2 at *
    generalize nD (ring.set a w) = X1 at *
    generalize nD ring.reverse = RV at *
    generalize nD (ring.take a) = T1 at *
    generalize nD (ring.drop (a + 1)) = T2 at *
    generalize nD (ring.drop a) = T3 at *
    generalize nD ring = RD at *
    simp [-Int.natCast_ediv, -Int.natCast_emod, -Int.natCast_add, FI__law_bent_rounds, B__law_bent_rounds, f1, f2, f3, f4, f5, d10, d100, hr0, hs0, hlen, x1, x2, g1, g2, rv, hz5, hz2, hz1, tk, dr0, dr, q1, q2, q3, q4, q5, q6, b5, b6, b7, b8, b9, b10]
end W
end
section
set_option maxRecDepth 100000
/-! F19: k56, nothing; the law's tail. -/
namespace W
open PySem L2 PyProof.Rows CI
theorem ev_nothing (m : Nat) : callF tb (m + 4) "_law_nothing" [] = .ok (.val (.bl true)) := by
  have hs : sizeLine = 16777216 := sizeLine_eq
  have hz1 : sz 1 = true := sz_ok (by omega)
  have hz2 : sz 2 = true := sz_ok (by omega)
  have hE : QA.In 0 [] := fun a h => by cases h
  have hg : Sg [] := fun a h => by cases h
  obtain ⟨t, e⟩ : ∃ t, callF tb (m + 3) "Graph" [.val (.int 0), .val (.lst [])] = .ok (.val (gO 0 [] t)) := ev_graph (m + 2) (n := 0) (E := []) hE (by simp) (by omega) _ (.inl rfl)
  have op : callF tb (m + 3) "order_paper" [.val (gO 0 [] t), .val (.str (mkS []))] = .ok (.val (.tup [.str "order", .tup []])) := by
    rcases ev_paper (m + 1) (t := t) hE (cs := []) rfl hg (by simp) (by omega) with ⟨O, h1, _, h2⟩ | ⟨R, h1, _⟩
    · have : O = [] := by simpa using h1.length_eq
      subst this
      exact h2
    · obtain ⟨e0, r, he⟩ : ∃ a b, R = a :: b := by
        cases R with
        | nil => exact absurd rfl h1.ne
        | cons a b => exact ⟨a, b, rfl⟩
      have := h1.inA e0 (by rw [he]; exact List.mem_cons_self)
      simp [arr] at this
  have so : ∀ row : List Int, row.length ≤ 1000 → callF tb (m + 3) "shows_order" [.val (gO 0 [] t), .val (.str (mkS [])), .val (.lst (row.map .int))] = .ok (.val (.bl (isO 0 (arr [] []) row))) := fun row hr => ev_showsO (m + 1) (t := t) hE (cs := []) rfl hg (by simp) (by omega) hr RowA.vl
  have so1 : callF tb (m + 3) "shows_order" [.val (gO 0 [] t), .val (.str (mkS [])), .val (.lst [])] = .ok (.val (.bl true)) := by
    have := so [] (by simp)
    have e1 : isO 0 (arr [] []) [] = true := by
      unfold isO
      have : sortI [] = nZ (List.range 0) := by unfold sortI nZ; simp
      rw [decide_eq_true this]; rfl
    rw [e1] at this
    exact this
  have so2 : callF tb (m + 3) "shows_order" [.val (gO 0 [] t), .val (.str (mkS [])), .val (.lst [.int 0])] = .ok (.val (.bl false)) := by
    have := so [0] (by simp)
    have e1 : isO 0 (arr [] []) [0] = false := by
      unfold isO
      have : ¬ sortI [0] = nZ (List.range 0) := fun e => by
        have := congrArg List.length e
        simp [sortI, nZ] at this
      rw [decide_eq_false this]; rfl
    rw [e1] at this
    exact this
  have sr : callF tb (m + 3) "shows_round" [.val (gO 0 [] t), .val (.str (mkS [])), .val (.lst [])] = .ok (.val (.bl false)) := ev_showsR (m + 1) (t := t) hE (cs := []) rfl hg (by simp) (R := []) (fun e h => by cases h) (by simp) RowA.vl
  have ak : Alk (m + 3) (.tup [.str "order", .tup []]) := alk_tup (m + 1) (by simp) fun d hd => by
    simp only [List.mem_cons, List.not_mem_nil, or_false] at hd
    rcases hd with rfl | rfl
    · exact alk_str _ ok_ord
    · exact alk_tup m (by simp) fun d hd => by cases hd
  unfold Alk at ak
  rw [call_fn tb__law_nothing rfl]
  generalize gO 0 [] t = G at *
  have hrt : sz 0 = true := sz_ok (by omega)
  simp [FI__law_nothing, B__law_nothing, e, l_emp, op, ak, so1, so2, sr, hz1, hz2]
noncomputable def lwC (F : CI.Callee) : Mn Fl :=
    (cSeq (cSet 15 (cCall F ("Graph" : Str) (cCons (cA (cFrz 1)) (cCons (cA (cVar 14)) cNil))))
    (cSeq (cSet 5 (cCall F ("_law_arrows_of" : Str) (cCons (cA (cVar 14)) (cCons (cA (cVar 4)) cNil))))
    (cSeq (cIfS (cNot (cTr (cCall F ("_law_paper" : Str) (cCons (cA (cVar 15)) (cCons (cA (cVar 1)) (cCons (cA (cVar 5)) (cCons (cA (cFrz 4)) cNil)))))))
    (cRet (cCst (.bl false)))
    cPass)
    (cSeq (cSet 16 (cCall F ("_law_bent_rounds" : Str) (cCons (cA (cBlt (uD gLen) (cCons (cA (cVar 14)) cNil))) (cCons (cA (cFrz 13)) (cCons (cA (cCall F ("_law_cell" : Str) (cCons (cA (cVar 0)) (cCons (cA (cCst (.int 19))) cNil)))) cNil)))))
    (cSeq (cIfS (cNot (cTr (cCall F ("_law_rounds_judged" : Str) (cCons (cA (cVar 15)) (cCons (cA (cVar 5)) (cCons (cA (cFrz 4)) (cCons (cA (cVar 16)) cNil)))))))
    (cRet (cCst (.bl false)))
    cPass)
    (cSeq (cIfS (cNot (cTr (cCall F ("_law_orders_judged" : Str) (cCons (cA (cVar 15)) (cCons (cA (cVar 1)) (cCons (cA (cVar 5)) (cCons (cA (cFrz 4)) (cCons (cA (cVar 7)) cNil))))))))
    (cRet (cCst (.bl false)))
    cPass)
    (cSeq (cSet 17 (cCall F ("_law_cell" : Str) (cCons (cA (cVar 0)) (cCons (cA (cCst (.int 20))) cNil))))
    (cSeq (cIfS (cNot (cTr (cCall F ("_law_refused" : Str) (cCons (cA (cVar 15)) (cCons (cA (cBlt (uD gLen) (cCons (cA (cVar 14)) cNil))) (cCons (cA (cFrz 4)) (cCons (cA (cVar 13)) (cCons (cA (cVar 17)) cNil))))))))
    (cRet (cCst (.bl false)))
    cPass)
    (cRet (cCall F ("_law_nothing" : Str) cNil))))))))))
noncomputable def lwB (F : CI.Callee) : Mn Fl :=
    (cSeq (cSetT (tTup [(tNm 11), (tNm 12)]) (cV (cCall F ("_law_ring_of" : Str) (cCons (cA (cVar 6)) (cCons (cA (cCall F ("_law_cell" : Str) (cCons (cA (cVar 0)) (cCons (cA (cCst (.int 16))) cNil)))) cNil)))))
    (cSeq (cSet 9 (cSl (cVar 9) cNoPart (cPart (cBin oSub (cCst (.int 10)) (cBlt (uD gLen) (cCons (cA (cVar 11)) cNil))))))
    (cSeq (cSet 4 (cSl (cVar 4) cNoPart (cPart (cBlt (uD gLen) (cCons (cA (cVar 9)) cNil)))))
    (cSeq (cSet 13 (cLc (ciRg1 (cBlt (uD gLen) (cCons (cA (cVar 11)) cNil))) (.nm 18) cYes (cBin oAdd (cBlt (uD gLen) (cCons (cA (cVar 9)) cNil)) (cVar 18)) [18]))
    (cSeq (cSet 14 (cBin oAdd (cVar 9) (cVar 11)))
    (cSeq (cSet 4 (cBin oAdd (cVar 4) (cVar 12)))
    (cSeq (cIfS (cTst (cBin oEq (cBin oMod (cBlt (uD gInt) (cCons (cA (cBin oFdiv (cCall F ("_law_cell" : Str) (cCons (cA (cVar 0)) (cCons (cA (cCst (.int 17))) cNil))) (cCst (.int 1000)))) cNil)) (cCst (.int 2))) (cCst (.int 1))))
    (cSeq (cSet 13 (cUn gLrg1 (cBlt (uD gLen) (cCons (cA (cVar 11)) cNil))))
    (cSeq (cSet 14 (cBin oAdd (cVar 11) (cVar 9)))
    (cSet 4 (cBin oAdd (cVar 12) (cSl (cVar 4) cNoPart (cPart (cBlt (uD gLen) (cCons (cA (cVar 9)) cNil))))))))
    cPass)
    (lwC F))))))))
noncomputable def lwA (F : CI.Callee) : Mn Fl :=
    (cSeq (cLock 2 (cSet 9 (cLc (ciVarY 2) (.nm 19) (cTst (cBin oNe (cBin ixD (cVar 19) (cCst (.int 0))) (cBin ixD (cVar 19) (cCst (.int 1))))) (cFrz 19) [19])))
    (cSeq (cSet 10 (cCall F ("Graph" : Str) (cCons (cA (cFrz 1)) (cCons (cA (cVar 9)) cNil))))
    (cSeq (cSet 4 (cCall F ("_law_along" : Str) (cCons (cA (cVar 9)) (cCons (cA (cVar 6)) cNil))))
    (cSeq (cSet 5 (cCall F ("_law_arrows_of" : Str) (cCons (cA (cVar 9)) (cCons (cA (cVar 4)) cNil))))
    (cSeq (cIfS (cNot (cTr (cCall F ("_law_paper" : Str) (cCons (cA (cVar 10)) (cCons (cA (cVar 1)) (cCons (cA (cVar 5)) (cCons (cA (cFrz 4)) cNil)))))))
    (cRet (cCst (.bl false)))
    cPass)
    (cSeq (cIfS (cNot (cTr (cCall F ("_law_orders_judged" : Str) (cCons (cA (cVar 10)) (cCons (cA (cVar 1)) (cCons (cA (cVar 5)) (cCons (cA (cFrz 4)) (cCons (cA (cVar 7)) cNil))))))))
    (cRet (cCst (.bl false)))
    cPass)
    (lwB F)))))))
theorem B_law_eq (F : CI.Callee) : B_law F = (cSeq (cSetT (tTup [(tNm 1), (tNm 2)]) (cV (cCall F ("_law_world" : Str) (cCons (cA (cVar 0)) cNil))))
    (cSeq (cSet 3 (cCall F ("Graph" : Str) (cCons (cA (cFrz 1)) (cCons (cA (cVar 2)) cNil))))
    (cSeq (cSet 4 (cCall F ("_law_drawn_signs" : Str) (cCons (cA (cCall F ("_law_cell" : Str) (cCons (cA (cVar 0)) (cCons (cA (cCst (.int 14))) cNil)))) (cCons (cA (cBlt (uD gLen) (cCons (cA (cVar 2)) cNil))) cNil))))
    (cSeq (cSet 5 (cCall F ("_law_arrows_of" : Str) (cCons (cA (cVar 2)) (cCons (cA (cVar 4)) cNil))))
    (cSeq (cSet 6 (cCall F ("_law_drawn_order" : Str) (cCons (cA (cCall F ("_law_cell" : Str) (cCons (cA (cVar 0)) (cCons (cA (cCst (.int 15))) cNil)))) (cCons (cA (cVar 1)) cNil))))
    (cSeq (cSet 7 (cCall F ("_law_bent_orders" : Str) (cCons (cA (cFrz 1)) (cCons (cA (cFrz 6)) (cCons (cA (cCall F ("_law_cell" : Str) (cCons (cA (cVar 0)) (cCons (cA (cCst (.int 17))) cNil)))) cNil)))))
    (cSeq (cIfS (cNot (cTr (cCall F ("_law_paper" : Str) (cCons (cA (cVar 3)) (cCons (cA (cVar 1)) (cCons (cA (cVar 5)) (cCons (cA (cFrz 4)) cNil)))))))
    (cRet (cCst (.bl false)))
    cPass)
    (cSeq (cIfS (cNot (cTr (cCall F ("_law_orders_judged" : Str) (cCons (cA (cVar 3)) (cCons (cA (cVar 1)) (cCons (cA (cVar 5)) (cCons (cA (cFrz 4)) (cCons (cA (cVar 7)) cNil))))))))
    (cRet (cCst (.bl false)))
    cPass)
    (cSeq (cSet 8 (cLc (ciRg1 (cBlt (uD gLen) (cCons (cA (cVar 2)) cNil))) (.nm 18) cYes (cLst (cCons (cV (cFrz 18)) cNil)) [18]))
    (cSeq (cIfS (cNot (cTr (cCall F ("_law_rounds_judged" : Str) (cCons (cA (cVar 3)) (cCons (cA (cVar 5)) (cCons (cA (cFrz 4)) (cCons (cA (cVar 8)) cNil)))))))
    (cRet (cCst (.bl false)))
    cPass)
    (cSeq (cIfS (cNot (cTr (cCall F ("_law_refused" : Str) (cCons (cA (cVar 3)) (cCons (cA (cBlt (uD gLen) (cCons (cA (cVar 2)) cNil))) (cCons (cA (cFrz 4)) (cCons (cA (cLst cNil)) (cCons (cA (cCall F ("_law_cell" : Str) (cCons (cA (cVar 0)) (cCons (cA (cCst (.int 18))) cNil)))) cNil))))))))
    (cRet (cCst (.bl false)))
    cPass)
    (lwA F)))))))))))) := rfl
end W
end
section
set_option maxRecDepth 100000
/-! F20: k56, the law's three parts. -/
namespace W
open PySem L2 PyProof.Rows CI
noncomputable abbrev F29 : CI.Callee := callF tb 29
theorem lwC_ok {ns : List Int} {n : Nat} {E : List (Nat × Nat)} {cs ring : List Nat} {rows : List (List Int)} (hE : QA.In n E) (h : cs.length = E.length) (hg : Sg cs) (hl : E.length ≤ 10) (hn : n ≤ 10) (hr : ∀ e ∈ ring, e < E.length) (hr1 : 1 ≤ ring.length) (hr2 : ring.length ≤ 10) (hrow : ∀ r ∈ rows, r.length ≤ 1000) (s2 s3 s5 s6 s8 s9 s10 s11 s12 s15 s16 s17 s18 s19 : Sl) :
    resOf (lwC F29 [.val (.lst (zD ns)), .val (.int n), s2, s3, .val (.str (mkS cs)), s5, s6, .own (.lst (rows.map lI)), s8, s9, s10, s11, s12, .own (.lst (nD ring)), .own (.lst (E.map eD)), s15, s16, s17, s18, s19]) = .ok (.val (.bl true)) := by
  obtain ⟨t, g⟩ := ev_graph 28 hE hl hn (.bor (.lst (E.map eD))) (.inr rfl)
  have la := ev_larr 28 h hg (by omega) (.bor (.lst (E.map eD))) (.inr rfl)
  have pp := ev_lpaper 26 (t := t) hE h hg (by omega) hn
  have c19 := ev_cellZ 28 ns (z := 19) (k := 19) rfl
  have c20 := ev_cellZ 28 ns (z := 20) (k := 20) rfl
  have hE1 : 1 ≤ E.length := by
    have := hr ring[0] (List.getElem_mem (by omega))
    omega
  obtain ⟨bs, b1, b2⟩ := ev_bentR 28 hr hr1 (by omega) hE1 (by omega) (cellN ns 19)
  have rj := ev_rjudged 26 (t := t) hE h hg (by omega) bs b1
  have oj := ev_ojudged 26 (t := t) hE h hg (by omega) hn rows hrow
  have rf := ev_refused 24 (t := t) hE h hg (by omega) hr (by omega) (cellN ns 20) (.val (.lst (nD ring))) (.inl rfl)
  have nt := ev_nothing 25
  have hlen : (E.map eD).length = E.length := by simp
  generalize zD ns = S at *
  generalize gO n E t = G at *
  generalize (arr E cs).map eD = AD at *
  generalize E.map eD = ED at *
  generalize nD ring = RD at *
  generalize rows.map lI = RW at *
  generalize bs.map lN = BS at *
  generalize mkS cs = M at *
  simp [lwC, g, la, pp, c19, c20, hlen, b2, rj, oj, rf, nt]
theorem lwB_ok {ns : List Int} {n : Nat} {E : List (Nat × Nat)} {cs O : List Nat} {rows : List (List Int)} (hE : QA.In n E) (h : cs.length = E.length) (hg : Sg cs) (hl : E.length ≤ 10) (hn1 : 1 ≤ n) (hn : n ≤ 10) (hO : O.Perm (List.range n)) (hrow : ∀ r ∈ rows, r.length ≤ 1000) (s2 s3 s5 s8 s10 : Sl) :
    resOf (lwB F29 [.val (.lst (zD ns)), .val (.int n), s2, s3, .val (.str (mkS cs)), s5, .val (.lst (nD O)), .own (.lst (rows.map lI)), s8, .own (.lst (E.map eD)), s10, .emp, .emp, .emp, .emp, .emp, .emp, .emp, .emp, .emp]) = .ok (.val (.bl true)) := by
  have hs : sizeLine = 16777216 := sizeLine_eq
  have hOl : O.length = n := by simpa using hO.length_eq
  have hOv : ∀ v ∈ O, v < n := fun v hv => List.mem_range.mp (hO.mem_iff.mp hv)
  have c16 := ev_cellZ 28 ns (z := 16) (k := 16) rfl
  have c17 := ev_cellZ 28 ns (z := 17) (k := 17) rfl
  have rg := ev_ring 28 hOv (cellN ns 16) (by omega) (by omega)
  have hM : ringM O (cellN ns 16) ≤ O.length ∧ 1 ≤ ringM O (cellN ns 16) := by
    have : (cellN ns 16 + 2) % O.length < O.length := Nat.mod_lt _ (by omega)
    unfold ringM
    omega
  obtain ⟨r1, r2, r3, r4⟩ := rg_inv O (cellN ns 16) (ringM O (cellN ns 16)) hOv (by omega) (ringM O (cellN ns 16))
  have re1 : (ringE O (cellN ns 16)).length = ringM O (cellN ns 16) := r1
  have re2 : (ringC O (cellN ns 16)).length = ringM O (cellN ns 16) := r2
  have re3 : QA.In n (ringE O (cellN ns 16)) := r3
  have re4 : Sg (ringC O (cellN ns 16)) := r4
  generalize ringE O (cellN ns 16) = RE at *
  generalize ringC O (cellN ns 16) = RC at *
  generalize ringM O (cellN ns 16) = M at *
  -- the cut
  have ctk := v_take (E.map eD) (z := (10 : Int) - (M : Int)) (k := 10 - M) (by omega)
  have hREl : (RE.map eD).length = M := by simp [re1]
  have e3 : (E.map eD).take (10 - M) = (E.take (10 - M)).map eD := by rw [List.map_take]
  rw [e3] at ctk
  have hE3 : QA.In n (E.take (10 - M)) := fun a ha => hE a (List.mem_of_mem_take ha)
  have hl3 : (E.take (10 - M)).length ≤ 10 - M := by rw [List.length_take]; omega
  have hl3' : (E.take (10 - M)).length ≤ E.length := by rw [List.length_take]; omega
  generalize E.take (10 - M) = E3 at *
  have hE3l : (E3.map eD).length = E3.length := by simp
  have cst := v_takeS (a := cs) (by omega) (z := (E3.length : Int)) (k := E3.length) rfl
  have hc3 : (cs.take E3.length).length = E3.length := by rw [List.length_take]; omega
  have hg3 : Sg (cs.take E3.length) := fun c hc => hg c (List.mem_of_mem_take hc)
  generalize cs.take E3.length = c3 at *
  have ad1 := v_addL (xs := E3.map eD) (ys := RE.map eD) (by simp; omega)
  have ad2 := v_addL (xs := RE.map eD) (ys := E3.map eD) (by simp; omega)
  rw [← List.map_append] at ad1 ad2
  have as1 := v_addS (a := c3) (b := RC) (by omega)
  have bst := v_takeS (a := c3 ++ RC) (by simp; omega) (z := (E3.length : Int)) (k := E3.length) rfl
  have hbt : (c3 ++ RC).take E3.length = c3 := by rw [List.take_append_of_le_length (by omega), List.take_of_length_le (by omega)]
  rw [hbt] at bst
  have as2 := v_addS (a := RC) (b := c3) (by omega)
  have f1 : (cellN ns 17 : Int).fdiv 1000 = ((cellN ns 17 / 1000 : Nat) : Int) := fdivN _ 1000
  have f2 : ((cellN ns 17 / 1000 : Nat) : Int).fmod 2 = ((cellN ns 17 / 1000 % 2 : Nat) : Int) := fmodN _ 2
  have d1000 : divOk 1000 = true := by decide
  have rgM := rg1_nat (k := M) (by omega)
  have lrM := v_lrg (n := M) (by omega)
  rw [rg_nD] at lrM
  have lc := fun (a : D) (s2 s3 s4 s5 s6 s7 s8 s10 s12 : Sl) => ev_lcN (β := Nat) (i := 18) (it := ciRg1 (cBlt (uD gLen) (cCons (cA (cVar 11)) cNil))) (elt := (cBin oAdd (cBlt (uD gLen) (cCons (cA (cVar 9)) cNil)) (cVar 18))) (xs := List.range M) (s := .emp)
    (ρ := [.val a, .val (.int n), s2, s3, s4, s5, s6, s7, s8, .own (.lst (E3.map eD)), s10, .val (.lst (RE.map eD)), s12, .emp, .emp, .emp, .emp, .emp, .emp, .emp]) (ρ1 := [.val a, .val (.int n), s2, s3, s4, s5, s6, s7, s8, .own (.lst (E3.map eD)), s10, .val (.lst (RE.map eD)), s12, .emp, .emp, .emp, .emp, .emp, .emp, .emp])
    (fun (k : Nat) => D.int (k : Int)) (fun (k : Nat) => D.int ((E3.length + k : Nat) : Int)) (by
      generalize RE.map eD = RED at *
      simp [hREl, rgM, rg_nD, nD]) rfl rfl (by simp; omega) fun k hk => by
      generalize E3.map eD = E3D at *
      simp [hE3l]
  have elc : ((List.range M).map fun (k : Nat) => D.int ((E3.length + k : Nat) : Int)) = nD ((List.range M).map fun k => E3.length + k) := by simp [nD]
  rw [elc] at lc
  have lc := lc (.lst (zD ns))
  by_cases hbit : cellN ns 17 / 1000 % 2 = 1
  · have tail := lwC_ok (ns := ns) (n := n) (E := RE ++ E3) (cs := RC ++ c3) (ring := List.range M) (rows := rows) (fun a ha => (List.mem_append.mp ha).elim (re3 a) (hE3 a)) (by simp; omega) (fun c hc => (List.mem_append.mp hc).elim (re4 c) (hg3 c)) (by simp; omega) hn (fun e he => by
      have := List.mem_range.mp he
      simp; omega) (by simp; omega) (by simp; omega) hrow
    have hb' : ((cellN ns 17 / 1000 % 2 : Nat) : Int) = 1 := by omega
    generalize zD ns = S at *
    generalize (RE ++ E3).map eD = X1 at *
    generalize (E3 ++ RE).map eD = X2 at *
    generalize E3.map eD = E3D at *
    generalize RE.map eD = RED at *
    generalize E.map eD = ED at *
    generalize nD (List.range M) = RM at *
    generalize nD ((List.range M).map fun k => E3.length + k) = RM2 at *
    generalize nD O = OD at *
    generalize rows.map lI = RW at *
    generalize mkS (RC ++ c3) = T1 at *
    generalize mkS (c3 ++ RC) = T2 at *
    generalize mkS c3 = T3 at *
    generalize mkS RC = T4 at *
    generalize mkS cs = T5 at *
    unfold lwB
    simp [-Int.natCast_ediv, -Int.natCast_emod, -Int.natCast_add, c16, c17, rg, hREl, ctk, hE3l, cst, lc, ad1, ad2, as1, as2, bst, f1, f2, d1000, hb', lrM, tail]
  · have tail := lwC_ok (ns := ns) (n := n) (E := E3 ++ RE) (cs := c3 ++ RC) (ring := (List.range M).map fun k => E3.length + k) (rows := rows) (fun a ha => (List.mem_append.mp ha).elim (hE3 a) (re3 a)) (by simp; omega) (fun c hc => (List.mem_append.mp hc).elim (hg3 c) (re4 c)) (by simp; omega) hn (fun e he => by
      obtain ⟨k, hk, rfl⟩ := List.mem_map.mp he
      have := List.mem_range.mp hk
      simp; omega) (by simp; omega) (by simp; omega) hrow
    have hb' : ¬ ((cellN ns 17 / 1000 % 2 : Nat) : Int) = 1 := by omega
    generalize zD ns = S at *
    generalize (RE ++ E3).map eD = X1 at *
    generalize (E3 ++ RE).map eD = X2 at *
    generalize E3.map eD = E3D at *
    generalize RE.map eD = RED at *
    generalize E.map eD = ED at *
    generalize nD ((List.range M).map fun k => E3.length + k) = RM2 at *
    generalize nD O = OD at *
    generalize rows.map lI = RW at *
    generalize mkS (RC ++ c3) = T1 at *
    generalize mkS (c3 ++ RC) = T2 at *
    generalize mkS c3 = T3 at *
    generalize mkS RC = T4 at *
    generalize mkS cs = T5 at *
    unfold lwB
    simp [-Int.natCast_ediv, -Int.natCast_emod, -Int.natCast_add, c16, c17, rg, hREl, ctk, hE3l, cst, lc, ad1, ad2, as1, as2, bst, f1, f2, d1000, hb', tail]
end W
end
section
set_option maxRecDepth 100000
/-! F21: k56, the law. -/
namespace W
open PySem L2 PyProof.Rows CI
theorem lwA_ok {ns : List Int} {n : Nat} {E : List (Nat × Nat)} {O : List Nat} {rows : List (List Int)} (hE : QA.In n E) (hl : E.length ≤ 10) (hn1 : 1 ≤ n) (hn : n ≤ 10) (hO : O.Perm (List.range n)) (hrow : ∀ r ∈ rows, r.length ≤ 1000) (s3 s4 s5 s8 : Sl) :
    resOf (lwA F29 [.val (.lst (zD ns)), .val (.int n), .val (.lst (E.map eD)), s3, s4, s5, .val (.lst (nD O)), .own (.lst (rows.map lI)), s8, .emp, .emp, .emp, .emp, .emp, .emp, .emp, .emp, .emp, .emp, .emp]) = .ok (.val (.bl true)) := by
  have hs : sizeLine = 16777216 := sizeLine_eq
  have lc := ev_lcG (β := Nat × Nat) (it := ciVarY 2) (t := .nm 19) (cond := (cTst (cBin oNe (cBin ixD (cVar 19) (cCst (.int 0))) (cBin ixD (cVar 19) (cCst (.int 1)))))) (elt := cFrz 19) (vs := [19]) (xs := E)
    (ρ := [.val (.lst (zD ns)), .val (.int n), .val (.lst (E.map eD)), s3, s4, s5, .val (.lst (nD O)), .own (.lst (rows.map lI)), s8, .emp, .emp, .emp, .emp, .emp, .emp, .emp, .emp, .emp, .emp, .emp]) (ρ1 := [.val (.lst (zD ns)), .val (.int n), .val (.lst (E.map eD)), s3, s4, s5, .val (.lst (nD O)), .own (.lst (rows.map lI)), s8, .emp, .emp, .emp, .emp, .emp, .emp, .emp, .emp, .emp, .emp, .emp])
    [.val (.lst (zD ns)), .val (.int n), .val (.lst (E.map eD)), s3, s4, s5, .val (.lst (nD O)), .own (.lst (rows.map lI)), s8, .emp, .emp, .emp, .emp, .emp, .emp, .emp, .emp, .emp, .emp, .emp] eD (fun e => !decide (e.1 = e.2)) eD
    (fun e => [.val (.lst (zD ns)), .val (.int n), .val (.lst (E.map eD)), s3, s4, s5, .val (.lst (nD O)), .own (.lst (rows.map lI)), s8, .emp, .emp, .emp, .emp, .emp, .emp, .emp, .emp, .emp, .emp, .val (eD e)]) (by simp) rfl rfl rfl (by omega) fun e he => by
      have x0 := ix_e0 e
      have x1 := ix_e1 e
      generalize E.map eD = ED
      generalize rows.map lI = RW
      generalize nD O = OD
      generalize zD ns = S
      generalize eD e = D0 at x0 x1 ⊢
      refine ⟨rfl, rfl, ?_, fun _ => by simp⟩
      have : decide ((e.1 : Int) = (e.2 : Int)) = decide (e.1 = e.2) := by
        rw [Bool.eq_iff_iff, decide_eq_true_eq, decide_eq_true_eq]; omega
      rw [← this]
      generalize (e.1 : Int) = u at x0 ⊢
      generalize (e.2 : Int) = w at x1 ⊢
      simp [x0, x1]
  have hE2 : QA.In n (E.filter fun e => !decide (e.1 = e.2)) := fun a ha => hE a (List.mem_filter.mp ha).1
  have hl2 : (E.filter fun e => !decide (e.1 = e.2)).length ≤ 10 := Nat.le_trans (List.length_filter_le _ _) hl
  generalize (E.filter fun e => !decide (e.1 = e.2)) = E2 at *
  obtain ⟨t, g⟩ := ev_graph 28 hE2 hl2 hn (.bor (.lst (E2.map eD))) (.inr rfl)
  have hOm : ∀ e ∈ E2, e.1 ∈ O ∧ e.2 ∈ O := fun e he => by
    obtain ⟨h1, h2⟩ := hE2 e he
    exact ⟨hO.mem_iff.mpr (List.mem_range.mpr h1), hO.mem_iff.mpr (List.mem_range.mpr h2)⟩
  have al := ev_along 28 hOm (by omega) (.bor (.lst (E2.map eD))) (.inr rfl)
  have ha := alg_len E2 O
  have hg := alg_sg E2 O
  generalize alg E2 O = cs at *
  have la := ev_larr 28 ha hg (by omega) (.bor (.lst (E2.map eD))) (.inr rfl)
  have pp := ev_lpaper 26 (t := t) hE2 ha hg (by omega) hn
  have oj := ev_ojudged 26 (t := t) hE2 ha hg (by omega) hn rows hrow
  have tail := fun s2 s3 s5 s8 s10 => lwB_ok (ns := ns) hE2 ha hg hl2 hn1 hn hO hrow s2 s3 s5 s8 s10
  generalize zD ns = S at *
  generalize gO n E2 t = G at *
  generalize (arr E2 cs).map eD = AD at *
  generalize E2.map eD = E2D at *
  generalize E.map eD = ED at *
  generalize nD O = OD at *
  generalize rows.map lI = RW at *
  generalize mkS cs = M at *
  unfold lwA
  simp [lc, g, al, la, pp, oj, tail]
theorem plain (ns : List Int) (hl : ns.length ≤ 63) : callF tb 30 "law" [.val (.lst (ns.map D.int))] = .ok (.val (.bl true)) := by
  have hs : sizeLine = 16777216 := sizeLine_eq
  have hz1 : sz 1 = true := sz_ok (by omega)
  have wd := ev_world 27 ns
  obtain ⟨n1, n2⟩ := worldN_bd ns
  have hE := worldE_in ns
  have hEl := worldE_len ns
  have hSb := worldS_bd ns
  have hl2 : (worldE ns).length ≤ 10 := by omega
  generalize worldN ns = n at *
  generalize worldE ns = E at *
  obtain ⟨t, g⟩ := ev_graph 28 hE hl2 n2 (.val (.lst (E.map eD))) (.inl rfl)
  have c14 := ev_cellZ 28 ns (z := 14) (k := 14) rfl
  have c15 := ev_cellZ 28 ns (z := 15) (k := 15) rfl
  have c17 := ev_cellZ 28 ns (z := 17) (k := 17) rfl
  have c18 := ev_cellZ 28 ns (z := 18) (k := 18) rfl
  have sg := ev_signs 28 (cellN ns 14) E.length hl2
  have hc := ds_len (cellN ns 14) E.length
  have hg := ds_sg (cellN ns 14) E.length
  generalize (dsS (cellN ns 14) E.length).1 = cs at *
  have la := ev_larr 28 hc hg (by omega) (.val (.lst (E.map eD))) (.inl rfl)
  have od := ev_order 28 (cellN ns 15) n n2
  have hO := ordF_perm (cellN ns 15) n
  generalize ordF (cellN ns 15) n = O at *
  have hOl : O.length = n := by simpa using hO.length_eq
  obtain ⟨rows, hrow, bo⟩ := ev_bentO 28 hOl n1 n2 (cellN ns 17)
  have pp := ev_lpaper 26 (t := t) hE hc hg (by omega) n2
  have oj := ev_ojudged 26 (t := t) hE hc hg (by omega) n2 rows hrow
  have rj := ev_rjudged 26 (t := t) hE hc hg (by omega) ((List.range E.length).map fun k => [k]) (fun r hr => by
    obtain ⟨k, hk, rfl⟩ := List.mem_map.mp hr
    have := List.mem_range.mp hk
    refine ⟨by simp, fun e he => ?_⟩
    simp at he
    omega)
  have rf := ev_refused 24 (t := t) hE hc hg (by omega) (ring := []) (fun e h => by cases h) (by simp) (cellN ns 18) (.val (.lst [])) (.inl rfl)
  have rg := rg1_nat (k := E.length) (by omega)
  have hlen : (E.map eD).length = E.length := by simp
  have tail := fun s3 s4 s5 s8 => lwA_ok (ns := ns) hE hl2 n1 n2 hO hrow s3 s4 s5 s8
  have lc := fun (a b : D) (s1 s3 s4 s5 s6 s7 : Sl) => ev_lcN (β := Nat) (i := 18) (it := ciRg1 (cBlt (uD gLen) (cCons (cA (cVar 2)) cNil))) (elt := (cLst (cCons (cV (cFrz 18)) cNil))) (xs := List.range E.length) (s := .emp)
    (ρ := [.val a, s1, .val (.lst (E.map eD)), s3, s4, s5, s6, s7, .emp, .emp, .emp, .emp, .emp, .emp, .emp, .emp, .emp, .emp, .emp, .emp]) (ρ1 := [.val a, s1, .val (.lst (E.map eD)), s3, s4, s5, s6, s7, .emp, .emp, .emp, .emp, .emp, .emp, .emp, .emp, .emp, .emp, .emp, .emp])
    (fun (k : Nat) => D.int (k : Int)) (fun (k : Nat) => D.lst [.int (k : Int)]) (by
      generalize E.map eD = ED at *
      simp [hlen, rg, rg_nD, nD]) rfl rfl (by simp; omega) fun k hk => by
      generalize E.map eD = ED at *
      simp [hz1]
  have elc : ((List.range E.length).map fun (k : Nat) => D.lst [.int (k : Int)]) = ((List.range E.length).map fun k => [k]).map lN := by simp [lN, nD]
  rw [elc] at lc
  have lc := lc (.lst (zD ns)) .non
  rw [call_fn tb_law rfl]
  simp only [FI_law, B_law_eq]
  have hzn : ns.map D.int = zD ns := rfl
  rw [hzn]
  generalize ((List.range E.length).map fun k => [k]).map lN = SI at *
  generalize zD ns = S at *
  generalize gO n E t = G at *
  generalize (arr E cs).map eD = AD at *
  generalize E.map eD = ED at *
  generalize nD O = OD at *
  generalize rows.map lI = RW at *
  generalize mkS cs = M at *
  simp [wd, g, c14, c15, c17, c18, sg, la, od, bo, pp, oj, rj, rf, hlen, lc, tail]
end W
end
set_option maxRecDepth 100000
set_option maxHeartbeats 0
open PySem PySem.W PySem.Calls PyProof.Rows
theorem PySem.Challenge.cw_strikejoin_k56_direction_papers_holds : PySem.Challenge.rw_strikejoin_k56_direction_papers.Holds := by
  w_on; o_law
  refine HandSHeadRun.head_any (r := OpenLaw.row PySem.Challenge.rw_strikejoin_k56_direction_papers) (q := view (OpenLaw.row PySem.Challenge.rw_strikejoin_k56_direction_papers).prog [47]) (H := W.hk) (ob := W.ob) (M := 60000) (loose := W.loose) (d := HandSHeadRun.topDef (OpenLaw.row PySem.Challenge.rw_strikejoin_k56_direction_papers).prog 47) (kwd := []) W.ob_eq
    (by kernel_rfl) (fun s => by kernel_rfl) W.run (by kernel_rfl) (by kernel_rfl) (by kernel_rfl) (by rfl) (by first | assumption | decide +kernel) (by decide +kernel) ⟨rfl, rfl, rfl, rfl, rfl, by decide +kernel⟩ ?hw ?hc
  case hw => w_witness2
  case hc =>
    refine CI.walk_end (l := PySem.Challenge.rw_strikejoin_k56_direction_papers) (most := 63) (k := 2 * (30 + 1)) (x := "script") rfl (by decide) (by kernel_rfl) ⟨rfl, by decide, by decide⟩ ?F
    intro w mg fa h Y G hmg0
    obtain ⟨K, KX, c⟩ := Y
    have hmg : mg ("law" : PySem.Str) = some (.ref fa) := by
      have e : (HandSHeadRun.topDef (OpenLaw.row PySem.Challenge.rw_strikejoin_k56_direction_papers).prog 47).name = ("law" : PySem.Str) := by kernel_rfl
      rw [← e]
      exact hmg0
    obtain ⟨fd, hb, hF⟩ := W.facts (w := w) c KX G 30
    have e := hmg.symm.trans (He.glo_ok KX G (c.l.d.fact 30 (f := .glo ("law" : PySem.Str)) rfl))
    cases e
    exact ⟨K, fd, _, KX, hb, fun H a ns hl hS => CI.law_sp c.l.nol hS (W.plain ns hl), hF⟩
