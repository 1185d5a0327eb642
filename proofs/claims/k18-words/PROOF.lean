import PyProof.Rows.All
import HandS.ForExc
import HandS.Text
import HandS.TupAny
import HandS.TupMul
import HandS.Deep
import HandS.Wide
import HandS.Comp
import HandS.CallSlots
import HandS.Defaults
import HandS.ExcIs
import HandS.Zip
import KE.GoesMore
import KE.GoesZip
import HandS.IsInst
import HandS.SortInts
import HandS.RaiseMore
import HandS.FStr
import HandS.Small
import HandS.TupSets
import HandS.WrittenGet
import HandS.HeadHook4
import HandS.HeadEnd
import HandS.Head2
import HandS.Ends
import HandS.Head0
import HandS.Head1
import HandS.Words
import HandS.WordsExc
import HandS.SortOrd
import PySem.Challenge.RW_strikejoin_k18_words
set_option Elab.async false
set_option linter.all false
section
/-! CICore: plain data, states, and what each construct does on plain data. No heap here. -/
namespace CI
open PySem L2

/-- plain data -/
inductive D where
  | non | bl (b : Bool) | int (i : Int) | str (x : Str)
  | tup (xs : List D) | lst (xs : List D)
  | dic (kvs : List (D × D))
  | obj (c : Str) (fs : List (Str × D))
  | glo (x : Str)
deriving Inhabited

abbrev Exc := Str × List (Str × D)
def isObj : D → Bool
  | .obj _ _ => true
  | _ => false
/-- a slot of the frame -/
inductive Sl where
  | emp | val (d : D) | own (d : D) | bor (d : D) | exn (x : Exc)
deriving Inhabited
abbrev En := List Sl
/-- an expression's result: frozen data, a fresh object, an object that a name holds -/
inductive Rv where
  | val (d : D) | own (d : D) | bor (d : D)
deriving Inhabited
def Rv.d : Rv → D
  | .val d => d
  | .own d => d
  | .bor d => d
inductive Out (α : Type) where
  | ok (a : α) (ρ : En) | exc (x : Exc) (ρ : En) | stuck
abbrev Mn (α : Type) : Type := En → Out α
inductive Res where
  | ok (r : Rv) | exc (x : Exc) | stuck
abbrev Callee := Str → List Rv → Res
inductive Fl where
  | nx | brk | cnt | ret (r : Rv)

def ret {α : Type} (a : α) : Mn α := fun ρ => .ok a ρ
def stk {α : Type} : Mn α := fun _ => .stuck
def bnd {α β : Type} (m : Mn α) (f : α → Mn β) : Mn β := fun ρ => match m ρ with
  | .ok a ρ' => f a ρ'
  | .exc x ρ' => .exc x ρ'
  | .stuck => .stuck
def ofO {α : Type} : Option α → Mn α
  | some a => ret a
  | none => stk

/-! ### names and constants -/
def cCst (d : D) : Mn Rv := ret (.val d)
def cVar (i : Nat) : Mn Rv := fun ρ => match ρ[i]? with
  | some (.val d) => .ok (.val d) ρ
  | some (.own d) => .ok (.bor d) ρ
  | some (.bor d) => .ok (.bor d) ρ
  | _ => .stuck
def cFrz (i : Nat) : Mn Rv := fun ρ => match ρ[i]? with
  | some (.val d) => .ok (.val d) ρ
  | some (.own d) => .ok (.val d) (ρ.set i (.val d))
  | _ => .stuck
def cMv (i : Nat) : Mn Rv := fun ρ => match ρ[i]? with
  | some (.val d) => .ok (.val d) ρ
  | some (.own d) => if isObj d = true then .stuck else .ok (.own d) (ρ.set i .emp)
  | _ => .stuck
/-- to keep: frozen -/
def vD : Rv → Option D
  | .val d => some d
  | .own d => some d
  | .bor _ => none
def cV (c : Mn Rv) : Mn D := bnd c fun r => ofO (vD r)
/-- to read -/
def cR (c : Mn Rv) : Mn D := bnd c fun r => ret r.d
/-- an argument -/
def aR : Rv → Rv
  | .own d => .val d
  | r => r
def cA (c : Mn Rv) : Mn Rv := bnd c fun r => ret (aR r)

def cNil {α : Type} : Mn (List α) := ret []
def cCons {α : Type} (a : Mn α) (r : Mn (List α)) : Mn (List α) := bnd a fun x => bnd r fun xs => ret (x :: xs)

/-! ### operators, by values -/
def cUn (f : D → Option Rv) (a : Mn Rv) : Mn Rv := bnd (cR a) fun x => ofO (f x)
def cBin (f : D → D → Option Rv) (a b : Mn Rv) : Mn Rv := bnd (cR a) fun x => bnd (cR b) fun y => ofO (f x y)
def smallI (i : Int) : Bool := decide (-(2 ^ 64) < i) && decide (i < 2 ^ 64)
def sz (n : Nat) : Bool := decide (n ≤ sizeLine)

def vI (i : Int) : Option Rv := some (.val (.int i))
def vB (b : Bool) : Option Rv := some (.val (.bl b))
def vS (x : Str) : Option Rv := some (.val (.str x))
def oAdd : D → D → Option Rv
  | .int i, .int j => vI (i + j)
  | .str x, .str y => if sz (x.length + y.length) then vS (x ++ y) else none
  | .tup xs, .tup ys => if sz (xs.length + ys.length) then some (.val (.tup (xs ++ ys))) else none
  | .lst xs, .lst ys => if sz (xs.length + ys.length) then some (.own (.lst (xs ++ ys))) else none
  | _, _ => none
def oSub : D → D → Option Rv
  | .int i, .int j => vI (i - j)
  | _, _ => none
def mulOk (i j : Int) : Bool := smallI i || smallI j || decide (i.natAbs.log2 + j.natAbs.log2 < 1000000)
def oMul : D → D → Option Rv
  | .int i, .int j => if mulOk i j then vI (i * j) else none
  | .lst xs, .int k => if decide (-(2 ^ 63) ≤ k) && decide (k < 2 ^ 63) && sz (xs.length * k.toNat) then some (.own (.lst (List.replicate k.toNat xs).flatten)) else none
  | .tup xs, .int k => if decide (1 ≤ k) && decide (k ≤ 1000) && !xs.isEmpty && decide (xs.length ≤ 1000) then some (.val (.tup (List.replicate k.toNat xs).flatten)) else none
  | _, _ => none
def divOk (j : Int) : Bool := (decide (j ≠ 0) && decide (j.natAbs < 1073741824)) || (decide (0 < j) && decide (j.natAbs.log2 < 9000))
def oFdiv : D → D → Option Rv
  | .int i, .int j => if divOk j then vI (i.fdiv j) else none
  | _, _ => none
def oMod : D → D → Option Rv
  | .int i, .int j => if j ≠ 0 then vI (i.fmod j) else none
  | _, _ => none
def powOk (i j : Int) : Bool := decide (0 ≤ j) && decide (j ≤ 1000000) && decide (i.natAbs < 2 ^ 64)
def oPow : D → D → Option Rv
  | .int i, .int j => if powOk i j then vI (i ^ j.toNat) else none
  | _, _ => none
def oShl : D → D → Option Rv
  | .int i, .int j => if powOk i j then vI (i * 2 ^ j.toNat) else none
  | _, _ => none
def oShr : D → D → Option Rv
  | .int i, .int j => if 0 ≤ j then vI (i / 2 ^ j.toNat) else none
  | _, _ => none
def oAnd : D → D → Option Rv
  | .int i, .int j => vI (Builtin.bitAnd i j)
  | _, _ => none
def oOr : D → D → Option Rv
  | .int i, .int j => vI (Builtin.bitOr i j)
  | _, _ => none
def oXor : D → D → Option Rv
  | .int i, .int j => vI (Builtin.bitXor i j)
  | _, _ => none
def oNeg : D → Option Rv
  | .int i => vI (-i)
  | _ => none

/-! ### comparisons -/
mutual
def pyOf : D → Option PyData
  | .non => some .none
  | .bl b => some (.bool b)
  | .int i => some (.int i)
  | .str x => some (.str x)
  | .tup ds => (pyAll ds).map .tuple
  | .lst ds => (pyAll ds).map .list
  | _ => none
def pyAll : List D → Option (List PyData)
  | [] => some []
  | d :: ds => match pyOf d, pyAll ds with
    | some x, some xs => some (x :: xs)
    | _, _ => none
end
def eqD (a b : D) : Option Bool := match pyOf a, pyOf b with
  | some d, some e => if SeqAt.shaped d && SeqAt.shaped e then some (PyData.eqv d e) else none
  | _, _ => none
def oEq (a b : D) : Option Rv := (eqD a b).bind vB
def oNe (a b : D) : Option Rv := (eqD a b).bind fun k => vB (!k)
def cmpI (p : Int → Int → Bool) : D → D → Option Rv
  | .int i, .int j => vB (p i j)
  | _, _ => none
def oLt : D → D → Option Rv := cmpI fun i j => decide (i < j)
def oLe : D → D → Option Rv := cmpI fun i j => decide (i ≤ j)
def oGt : D → D → Option Rv := cmpI fun i j => decide (j < i)
def oGe : D → D → Option Rv := cmpI fun i j => decide (j ≤ i)
def inD (a b : D) : Option Bool := match pyOf a, pyOf b with
  | some d, some (.list ds) => if SeqAt.shaped d && SeqAt.shaped (.list ds) then some (ds.any fun z => PyData.eqv z d) else none
  | _, _ => none
def oInL (a b : D) : Option Rv := (inD a b).bind vB
def oNotInL (a b : D) : Option Rv := (inD a b).bind fun k => vB (!k)
def isNon : D → Bool
  | .non => true
  | _ => false
def oIsN (a b : D) : Option Rv := if isNon b then vB (isNon a) else none
def oNotN (a b : D) : Option Rv := if isNon b then vB (!isNon a) else none

/-! ### tests -/
def truD : D → Option Bool
  | .non => some false
  | .bl b => some b
  | .int i => some (i != 0)
  | .str x => if sz x.length then some ((x.length : Int) != 0) else none
  | .tup xs => some (!xs.isEmpty)
  | .lst xs => some (!xs.isEmpty)
  | .dic kvs => some (!kvs.isEmpty)
  | _ => none
def cTr (c : Mn Rv) : Mn Bool := bnd c fun r => ofO (truD r.d)
def cNot (c : Mn Bool) : Mn Bool := bnd c fun k => ret (!k)
def cAnd (a b : Mn Bool) : Mn Bool := bnd a fun k => if k = true then b else ret false
def cOr (a b : Mn Bool) : Mn Bool := bnd a fun k => if k = true then ret true else b
def blD : D → Option Bool
  | .bl b => some b
  | _ => none
def cNotV (a : Mn Rv) : Mn Rv := bnd a fun r => bnd (ofO (blD r.d)) fun k => ret (.val (.bl (!k)))
def cAndV (a b : Mn Rv) : Mn Rv := bnd a fun r => bnd (ofO (blD r.d)) fun k => if k = true then b else ret (.val (.bl false))
def cOrV (a b : Mn Rv) : Mn Rv := bnd a fun r => bnd (ofO (blD r.d)) fun k => if k = true then ret (.val (.bl true)) else b
def cIf (t : Mn Bool) (a b : Mn Rv) : Mn Rv := bnd t fun k => if k = true then a else b
def blR : Option Rv → Option Bool
  | some (.val (.bl b)) => some b
  | _ => none
def cChain (f g : D → D → Option Rv) (a b c : Mn Rv) : Mn Rv := bnd a fun x => bnd b fun y => bnd (ofO (blR (f x.d y.d))) fun k => if k = true then bnd c fun z => ofO (g y.d z.d) else ret (.val (.bl false))

/-! ### places -/
def ixD : D → D → Option Rv
  | .lst xs, .int i => (atI xs i).map .val
  | .tup xs, .int i => (atI xs i).map .val
  | .str x, .int i => if sz x.length then (atI x.cps.toList i).map fun c => .val (.str ⟨#[c]⟩) else none
  | _, _ => none
def oI : D → Option (Option Int)
  | .int i => some (some i)
  | _ => none
def cNoPart : Mn (Option Int) := ret none
def cPart (c : Mn Rv) : Mn (Option Int) := bnd c fun r => ofO (oI r.d)
def cutD (xs : List D) (lo hi : Option Int) : List D := (xs.drop (HT.sIx xs.length 0 lo)).take (HT.sIx xs.length xs.length hi - HT.sIx xs.length 0 lo)
def slD : D → Option Int → Option Int → Option Rv
  | .lst xs, lo, hi => some (.own (.lst (cutD xs lo hi)))
  | .tup xs, lo, hi => some (.val (.tup (cutD xs lo hi)))
  | .str x, lo, hi => if sz x.length then some (.val (.str (cutS x lo hi))) else none
  | _, _, _ => none
def cSl (c : Mn Rv) (l h : Mn (Option Int)) : Mn Rv := bnd c fun r => bnd l fun lo => bnd h fun hi => ofO (slD r.d lo hi)

/-! ### displays -/
def cTup (c : Mn (List D)) : Mn Rv := bnd c fun ds => if sz ds.length = true then ret (.val (.tup ds)) else stk
def cLst (c : Mn (List D)) : Mn Rv := bnd c fun ds => if sz ds.length = true then ret (.own (.lst ds)) else stk

theorem bnd_assoc {α β γ : Type} (m : Mn α) (f : α → Mn β) (g : β → Mn γ) : bnd (bnd m f) g = bnd m fun x => bnd (f x) g := by
  funext ρ
  unfold bnd
  cases m ρ <;> rfl
theorem bnd_ret {α β : Type} (a : α) (f : α → Mn β) : bnd (ret a) f = f a := rfl

/-! ### statements -/
def cExpr (c : Mn Rv) : Mn Fl := bnd c fun _ => ret .nx
def retR : Rv → Mn Fl
  | .bor _ => stk
  | r => ret (.ret r)
def cRet (c : Mn Rv) : Mn Fl := bnd c retR
def cRetN : Mn Fl := ret (.ret (.val .non))
def cPass : Mn Fl := ret .nx
def cBrk : Mn Fl := ret .brk
def cCnt : Mn Fl := ret .cnt
def cSeq (a b : Mn Fl) : Mn Fl := fun ρ => match a ρ with
  | .ok .nx ρ' => b ρ'
  | o => o
def cIfS (t : Mn Bool) (a b : Mn Fl) : Mn Fl := bnd t fun k => if k = true then a else b
def slOf : Rv → Option Sl
  | .val d => some (.val d)
  | .own d => some (.own d)
  | .bor _ => none
/-- x = e -/
def cSet (i : Nat) (c : Mn Rv) : Mn Fl := bnd c fun r ρ => match slOf r with
  | some s => .ok .nx (ρ.set i s)
  | none => .stuck
/-- an own object changes -/
def mutU (i : Nat) (f : D → Option D) : Mn Unit := fun ρ => match ρ[i]? with
  | some (.own d) => (match f d with
    | some d' => .ok () (ρ.set i (.own d'))
    | none => .stuck)
  | _ => .stuck
def needOwn (i : Nat) : Mn Unit := fun ρ => match ρ[i]? with
  | some (.own (.lst _)) => .ok () ρ
  | _ => .stuck
def appD (d : D) : D → Option D
  | .lst ds => if ds.length < sizeLine then some (.lst (ds ++ [d])) else none
  | _ => none
def setD (k : D) (d : D) : D → Option D
  | .lst ds => (match k with
    | .int i => (ixN ds.length i).map fun j => .lst (ds.set j d)
    | _ => none)
  | _ => none
/-- targets -/
abbrev Tg := D → Mn Unit
def tNm (i : Nat) : Tg := fun d ρ => .ok () (ρ.set i (.val d))
def tAll : List Tg → List D → Mn Unit
  | [], [] => ret ()
  | t :: ts, d :: ds => bnd (t d) fun _ => tAll ts ds
  | _, _ => stk
def tTup (ts : List Tg) : Tg
  | .tup ds => if ds.length = ts.length then tAll ts ds else stk
  | _ => stk
/-- x[k] = .. -/
def tSub (i : Nat) (k : Mn Rv) : Tg := fun d => bnd (needOwn i) fun _ => bnd (cR k) fun kd => mutU i (setD kd d)
def cSetT (t : Tg) (c : Mn D) : Mn Fl := bnd c fun d => bnd (t d) fun _ => ret .nx
/-- x op= e, numbers -/
def cAug (f : D → D → Option D) (i : Nat) (c : Mn Rv) : Mn Fl := bnd (cVar i) fun x => bnd c fun y => bnd (ofO (f x.d y.d)) fun d ρ => .ok .nx (ρ.set i (.val d))
def augAdd : D → D → Option D
  | .int i, .int j => some (.int (i + j))
  | _, _ => none
def augSub : D → D → Option D
  | .int i, .int j => some (.int (i - j))
  | _, _ => none
def cApp (i : Nat) (c : Mn Rv) : Mn Fl := bnd (needOwn i) fun _ => bnd (cV c) fun d => bnd (mutU i (appD d)) fun _ => ret .nx
/-- x[k] op= e -/
def getD (k : D) : D → Option D
  | .lst ds => (match k with
    | .int i => if 0 ≤ i then atI ds i else none
    | _ => none)
  | _ => none
def cGet (i : Nat) (k : D) : Mn D := fun ρ => match ρ[i]? with
  | some (.own d) => ofO (getD k d) ρ
  | _ => .stuck
def cAugIx (f : D → D → Option D) (i : Nat) (k : Mn Rv) (c : Mn Rv) : Mn Fl := bnd (needOwn i) fun _ => bnd (cR k) fun kd => bnd (cGet i kd) fun x => bnd (cR c) fun y => bnd (ofO (f x y)) fun d => bnd (mutU i (setD kd d)) fun _ => ret .nx

/-- loops -/
def forL (t : Tg) (body : Mn Fl) : List D → Mn Fl
  | [] => ret .nx
  | d :: ds => bnd (t d) fun _ ρ => match body ρ with
    | .ok .nx ρ' => forL t body ds ρ'
    | .ok .cnt ρ' => forL t body ds ρ'
    | .ok .brk ρ' => .ok .nx ρ'
    | o => o
def cFor (it : Mn (List D)) (t : Tg) (body : Mn Fl) : Mn Fl := bnd it fun ds => forL t body ds
/-- slot j is borrowed meanwhile -/
def unbor (j : Nat) (ρ : En) : En := match ρ[j]? with
  | some (.bor d) => ρ.set j (.own d)
  | _ => ρ
def Out.mapE {α : Type} (f : En → En) : Out α → Out α
  | .ok a ρ => .ok a (f ρ)
  | .exc x ρ => .exc x (f ρ)
  | .stuck => .stuck
def cLock {α : Type} (j : Nat) (m : Mn α) : Mn α := fun ρ => match ρ[j]? with
  | some (.own d) => if isObj d = true then m ρ else (m (ρ.set j (.bor d))).mapE (unbor j)
  | _ => m ρ
def whileN (c : Mn Bool) (body : Mn Fl) : Nat → Mn Fl
  | 0 => stk
  | n + 1 => bnd c fun k => if k = true then (fun ρ => match body ρ with
    | .ok .nx ρ' => whileN c body n ρ'
    | .ok .cnt ρ' => whileN c body n ρ'
    | .ok .brk ρ' => .ok .nx ρ'
    | o => o) else ret .nx
def Out.isStuck {α : Type} : Out α → Bool
  | .stuck => true
  | _ => false
open Classical in
noncomputable def cWhile (c : Mn Bool) (body : Mn Fl) : Mn Fl := fun ρ => if h : ∃ n, (whileN c body n ρ).isStuck = false then whileN c body (choose h) ρ else .stuck
theorem whileN_mono (c : Mn Bool) (body : Mn Fl) : ∀ (n m : Nat) (ρ : En), n ≤ m → (whileN c body n ρ).isStuck = false → whileN c body m ρ = whileN c body n ρ
  | 0, _, ρ, _, h => by cases h
  | n + 1, 0, ρ, hl, _ => absurd hl (Nat.not_succ_le_zero n)
  | n + 1, m + 1, ρ, hl, h => by
    have ih := whileN_mono c body n m
    unfold whileN bnd at h ⊢
    cases hc : c ρ with
    | stuck => rfl
    | exc x ρ' => rfl
    | ok k ρ1 =>
      rw [hc] at h
      simp only at h ⊢
      cases k with
      | false => rfl
      | true =>
        simp only [if_true] at h ⊢
        cases hb : body ρ1 with
        | stuck => rfl
        | exc x ρ' => rfl
        | ok f ρ2 =>
          rw [hb] at h
          cases f with
          | brk => rfl
          | ret r => rfl
          | nx => exact ih ρ2 (Nat.le_of_succ_le_succ hl) h
          | cnt => exact ih ρ2 (Nat.le_of_succ_le_succ hl) h
theorem while_eq {c : Mn Bool} {body : Mn Fl} {n : Nat} {ρ : En} (h : (whileN c body n ρ).isStuck = false) : cWhile c body ρ = whileN c body n ρ := by
  unfold cWhile
  have hx : ∃ n, (whileN c body n ρ).isStuck = false := ⟨n, h⟩
  rw [dif_pos hx]
  have hc := Classical.choose_spec hx
  rcases Nat.le_total n (Classical.choose hx) with hl | hl
  · exact whileN_mono c body _ _ ρ hl h
  · exact (whileN_mono c body _ _ ρ hl hc).symm

/-! ### what is walked -/
def seqD : D → Option (List D)
  | .lst ds => some ds
  | .tup ds => some ds
  | _ => none
def seqR : Rv → Option (List D)
  | .val d => seqD d
  | .own d => seqD d
  | .bor _ => none
/-- an expression's list or tuple -/
def ciSeq (c : Mn Rv) : Mn (List D) := bnd c fun r => ofO (seqR r)
/-- a name's list or tuple, frozen or borrowed -/
def ciVar (i : Nat) : Mn (List D) := fun ρ => match ρ[i]? with
  | some (.val d) => ofO (seqD d) ρ
  | some (.bor d) => ofO (seqD d) ρ
  | _ => .stuck
def inRg (i : Int) : Bool := decide (-(2 ^ 62) ≤ i) && decide (i < 2 ^ 62)
def rgD (lo : Int) (n : Nat) : List D := (List.range n).map fun (k : Nat) => D.int (lo + (k : Int))
def rg1 : D → Option (List D)
  | .int j => if inRg j then some (rgD 0 j.toNat) else none
  | _ => none
def rg2 : D → D → Option (List D)
  | .int i, .int j => if inRg i && inRg j then some (rgD i (j - i).toNat) else none
  | _, _ => none
def ciRg1 (c : Mn Rv) : Mn (List D) := bnd (cCons (cA c) cNil) fun rs => match rs with
  | [r] => ofO (rg1 r.d)
  | _ => stk
def ciRg2 (a b : Mn Rv) : Mn (List D) := bnd (cCons (cA a) (cCons (cA b) cNil)) fun rs => match rs with
  | [r, q] => ofO (rg2 r.d q.d)
  | _ => stk

/-! ### comprehensions -/
def wipeE (ρ : En) : List Nat → En
  | [] => ρ
  | v :: vs => (wipeE ρ vs).set v .emp
def okOwn (ρ : En) (vs : List Nat) : Bool := vs.all fun j => match ρ[j]? with
  | some (.own _) => false
  | some (.bor _) => false
  | _ => true
def restE (ρ0 ρ : En) : List Nat → En
  | [] => ρ
  | v :: vs => match ρ0[v]? with
    | some s => (restE ρ0 ρ vs).set v s
    | none => restE ρ0 ρ vs
inductive Tn where
  | nm (i : Nat) | tup (ts : List Tn)
mutual
def setTn : Tn → D → En → Option En
  | .nm i, d, ρ => some (ρ.set i (.val d))
  | .tup ts, .tup ds, ρ => setTns ts ds ρ
  | .tup _, _, _ => none
def setTns : List Tn → List D → En → Option En
  | [], [], ρ => some ρ
  | t :: ts, d :: ds, ρ => (setTn t d ρ).bind fun ρ' => setTns ts ds ρ'
  | _, _, _ => none
end
mutual
def Tn.ix : Tn → List Nat
  | .nm i => [i]
  | .tup ts => Tn.ixs ts
def Tn.ixs : List Tn → List Nat
  | [] => []
  | t :: ts => t.ix ++ Tn.ixs ts
end
/-- the tests of a clause and the element: what a turn adds -/
def lcTurn (cond : Mn Bool) (elt : Mn Rv) (ρ : En) : Option (Option D × En) := match cond ρ with
  | .ok false ρ2 => some (none, ρ2)
  | .ok true ρ2 => (match cV elt ρ2 with
    | .ok y ρ3 => some (some y, ρ3)
    | _ => none)
  | _ => none
def lcL (t : Tn) (cond : Mn Bool) (elt : Mn Rv) (vs : List Nat) : List D → List D → En → Option (List D × En)
  | [], acc, ρ => some (acc, ρ)
  | d :: ds, acc, ρ => (setTn t d ρ).bind fun ρ1 => (lcTurn cond elt ρ1).bind fun q => match q.1 with
    | none => lcL t cond elt vs ds acc (wipeE q.2 vs)
    | some y => if acc.length < sizeLine then lcL t cond elt vs ds (acc ++ [y]) (wipeE q.2 vs) else none
def cLc (it : Mn (List D)) (t : Tn) (cond : Mn Bool) (elt : Mn Rv) (vs : List Nat) : Mn Rv := bnd it fun ds ρ =>
  if okOwn ρ vs && t.ix.all (fun i => vs.contains i) then (match lcL t cond elt vs ds [] (wipeE ρ vs) with
    | some q => .ok (.own (.lst q.1)) (restE ρ q.2 vs)
    | none => .stuck) else .stuck
def cYes : Mn Bool := ret true

/-! ### defs -/
/-- a def's plain meaning: its parameters' number, its slots' number, its body -/
structure FnI where
  np : Nat
  ns : Nat
  body : Callee → Mn Fl
def argSl : Rv → Sl
  | .val d => .val d
  | .own d => .val d
  | .bor d => .bor d
def startE (ns : Nat) (rs : List Rv) : En := rs.map argSl ++ List.replicate (ns - rs.length) .emp
def resOf : Out Fl → Res
  | .ok (.ret (.val d)) _ => .ok (.val d)
  | .ok (.ret (.own d)) _ => .ok (.own d)
  | .ok .nx _ => .ok (.val .non)
  | .exc x _ => .exc x
  | _ => .stuck
def runFn (d : FnI) (F : Callee) (rs : List Rv) : Res := if rs.length = d.np then resOf (d.body F (startE d.ns rs)) else .stuck
/-- an __init__ of the class c: the instance as it is left -/
def initEnd (c : Str) : Out Fl → Res
  | .ok .nx ρ => (match (ρ[(0 : Nat)]? : Option Sl) with
    | some (.own (.obj c' fs)) => if c' = c then .ok (.val (.obj c fs)) else .stuck
    | _ => .stuck)
  | .exc x _ => .exc x
  | _ => .stuck
def runInit (c : Str) (d : FnI) (F : Callee) (rs : List Rv) : Res := if rs.length + 1 = d.np then initEnd c (d.body F (.own (.obj c []) :: startE (d.ns - 1) rs)) else .stuck
/-- what the text's names mean when called: a def, a class by its __init__ -/
inductive Ent where
  | fn (d : FnI) | init (d : FnI)
def callF (tb : Str → Option Ent) : Nat → Callee
  | 0 => fun _ _ => .stuck
  | k + 1 => fun x rs => match tb x with
    | some (.fn d) => runFn d (callF tb k) rs
    | some (.init d) => runInit x d (callF tb k) rs
    | none => .stuck
def ofRes : Res → Mn Rv
  | .ok r => ret r
  | .exc x => fun ρ => .exc x ρ
  | .stuck => stk
def cCallG (G : List Rv → Res) (cs : Mn (List Rv)) : Mn Rv := bnd cs fun rs => ofRes (G rs)
abbrev cCall (F : Callee) (x : Str) (cs : Mn (List Rv)) : Mn Rv := cCallG (F x) cs
/-- the last arguments are defaults -/
abbrev cCallD (F : Callee) (x : Str) (dd : List D) (cs : Mn (List Rv)) : Mn Rv := cCallG (fun rs => F x (rs ++ dd.map Rv.val)) cs

/-! ### fields -/
def fldD (cs : List Str) (f : Str) : D → Option D
  | .obj c fs => if c ∈ cs then fs.lookup f else none
  | _ => none
def cFld (cs : List Str) (f : Str) (c : Mn Rv) : Mn Rv := bnd c fun r => bnd (ofO (fldD cs f r.d)) fun d => ret (.val d)
def putFD (f : Str) (v : D) : List (Str × D) → List (Str × D)
  | [] => [(f, v)]
  | (g, w) :: r => if g = f then (f, v) :: r else (g, w) :: putFD f v r
def putD (c : Str) (f : Str) (v : D) : D → Option D
  | .obj c' fs => if c' = c ∧ fs.length < 1000 then some (.obj c' (putFD f v fs)) else none
  | _ => none
/-- self.f = e -/
def cFldS (i : Nat) (c : Str) (f : Str) (e : Mn Rv) : Mn Fl := bnd (cV e) fun d => bnd (mutU i (putD c f d)) fun _ => ret .nx

/-! ### errors -/
def cRse (x : Str) : Mn Fl := fun ρ => .exc (x, []) ρ
/-- behind an except suite: its error is gone -/
def clean (ρ : En) : En := ρ.map fun s => match s with
  | .exn _ => .emp
  | s => s
def sufEnd (i : Nat) : Out Fl → Out Fl
  | .ok a ρ => .ok a ((clean ρ).set i .emp)
  | _ => .stuck
/-- try: body, except c as slot i: suite. su: which classes are of c -/
def cTry (body : Mn Fl) (su : Str → Option Bool) (i : Nat) (suite : Mn Fl) : Mn Fl := fun ρ => match body ρ with
  | .exc x ρ' => (match su x.1 with
    | some true => sufEnd i (suite (ρ'.set i (.exn x)))
    | some false => .exc x ρ'
    | none => .stuck)
  | o => o
/-- isinstance(e, c), e the suite's error -/
def cIsE (i : Nat) (su : Str → Option Bool) : Mn Rv := fun ρ => match ρ[i]? with
  | some (.exn x) => (match x.2, su x.1 with
    | [], some b => .ok (.val (.bl b)) ρ
    | _, _ => .stuck)
  | _ => .stuck
end CI
end
section
/-! CIRep: what plain data stand for in the abstract heap; states; steps. -/
namespace CI
open PySem L2

/-- the text behind the top: the written part, the module's names -/
structure Tx where
  K : PySem.W.Frag
  mg : Str → Option Value
  /-- the error that an except suite holds -/
  ex : Option (Addr × Obj)

mutual
/-- v stands for d, over the frozen heap Z -/
def Rep (T : Tx) (Z : Hp) : D → V → Prop
  | .non, v => v = .non
  | .bl b, v => v = .bl b
  | .int i, v => v = .int i
  | .str x, v => v = .str x
  | .tup ds, v => ∃ a vs, v = .ref a ∧ SqT T.K Z a vs ∧ Reps T Z ds vs
  | .lst ds, v => ∃ a vs, v = .ref a ∧ Rd Z a (.lst vs) ∧ Reps T Z ds vs
  | .dic kvs, v => ∃ a, v = .ref a ∧ ∃ es : List (Key × V), Z a = some (.dK es) ∧ RepK T Z kvs es
  | .obj c fs, v => ∃ a C dx gs, v = .ref a ∧ T.mg c = some (.ref C) ∧ Z a = some (.ins C dx gs) ∧ RepF T Z fs gs
  | .glo x, v => ∃ a, v = .ref a ∧ T.mg x = some (.ref a)
def Reps (T : Tx) (Z : Hp) : List D → List V → Prop
  | [], vs => vs = []
  | d :: ds, vs => ∃ v r, vs = v :: r ∧ Rep T Z d v ∧ Reps T Z ds r
def RepF (T : Tx) (Z : Hp) : List (Str × D) → List (Str × V) → Prop
  | [], vs => vs = []
  | (f, d) :: ds, vs => ∃ v r, vs = (f, v) :: r ∧ Rep T Z d v ∧ RepF T Z ds r
def RepK (T : Tx) (Z : Hp) : List (D × D) → List (Key × V) → Prop
  | [], vs => vs = []
  | (k, d) :: ds, vs => ∃ q v r, vs = (q, v) :: r ∧ Rep T Z k (kV q) ∧ Rep T Z d v ∧ RepK T Z ds r
end

abbrev Le (Z Z' : Hp) : Prop := ∀ a o, Z a = some o → Z' a = some o
theorem Le.refl (Z : Hp) : Le Z Z := fun _ _ h => h
theorem Le.trans {A B C : Hp} (h : Le A B) (k : Le B C) : Le A C := fun a o e => k a o (h a o e)
theorem Le.rd {Z Z' : Hp} (h : Le Z Z') {a : Addr} {u : HO} : Rd Z a u → Rd Z' a u
  | .inl e => .inl (h _ _ e)
  | .inr ⟨o, e⟩ => .inr ⟨o, h _ _ e⟩
theorem Le.sqL {K : PySem.W.Frag} {Z Z' : Hp} (h : Le Z Z') {a : Addr} {vs : List V} : SqL K Z a vs → SqL K Z' a vs
  | .inl r => .inl (h.rd r)
  | .inr e => .inr e
theorem Le.sqT {K : PySem.W.Frag} {Z Z' : Hp} (h : Le Z Z') {a : Addr} {vs : List V} : SqT K Z a vs → SqT K Z' a vs
  | .inl r => .inl (h.rd r)
  | .inr e => .inr e

mutual
theorem Rep.mono {T : Tx} {Z Z' : Hp} (h : Le Z Z') : ∀ {d : D} {v : V}, Rep T Z d v → Rep T Z' d v
  | .non, _, r => r
  | .bl _, _, r => r
  | .int _, _, r => r
  | .str _, _, r => r
  | .tup _, _, ⟨a, vs, e, q, r⟩ => ⟨a, vs, e, h.sqT q, Reps.mono h r⟩
  | .lst _, _, ⟨a, vs, e, q, r⟩ => ⟨a, vs, e, h.rd q, Reps.mono h r⟩
  | .dic _, _, ⟨a, e, es, q, r⟩ => ⟨a, e, es, h _ _ q, RepK.mono h r⟩
  | .obj _ _, _, ⟨a, C, dx, gs, e, m, q, r⟩ => ⟨a, C, dx, gs, e, m, h _ _ q, RepF.mono h r⟩
  | .glo _, _, r => r
theorem Reps.mono {T : Tx} {Z Z' : Hp} (h : Le Z Z') : ∀ {ds : List D} {vs : List V}, Reps T Z ds vs → Reps T Z' ds vs
  | [], _, r => r
  | _ :: _, _, ⟨v, r, e, q, s⟩ => ⟨v, r, e, Rep.mono h q, Reps.mono h s⟩
theorem RepF.mono {T : Tx} {Z Z' : Hp} (h : Le Z Z') : ∀ {ds : List (Str × D)} {vs : List (Str × V)}, RepF T Z ds vs → RepF T Z' ds vs
  | [], _, r => r
  | (_, _) :: _, _, ⟨v, r, e, q, s⟩ => ⟨v, r, e, Rep.mono h q, RepF.mono h s⟩
theorem RepK.mono {T : Tx} {Z Z' : Hp} (h : Le Z Z') : ∀ {ds : List (D × D)} {vs : List (Key × V)}, RepK T Z ds vs → RepK T Z' ds vs
  | [], _, r => r
  | (_, _) :: _, _, ⟨q, v, r, e, q1, q2, s⟩ => ⟨q, v, r, e, Rep.mono h q1, Rep.mono h q2, RepK.mono h s⟩
end
theorem Reps.length {T : Tx} {Z : Hp} : ∀ {ds : List D} {vs : List V}, Reps T Z ds vs → ds.length = vs.length
  | [], _, r => by rw [show _ = [] from r]; rfl
  | _ :: _, _, ⟨v, r, e, _, s⟩ => by rw [e, List.length_cons, List.length_cons, Reps.length s]
theorem Reps.get {T : Tx} {Z : Hp} : ∀ {ds : List D} {vs : List V} {i : Nat} {d : D}, Reps T Z ds vs → ds[i]? = some d → ∃ v, vs[i]? = some v ∧ Rep T Z d v
  | [], _, i, _, _, e => by simp at e
  | _ :: _, _, 0, _, ⟨v, r, e, q, s⟩, h => by simp at h; subst h; subst e; exact ⟨v, by simp, q⟩
  | _ :: _, _, i + 1, _, ⟨v, r, e, q, s⟩, h => by
    subst e
    obtain ⟨u, h1, h2⟩ := Reps.get (i := i) s (by simpa using h)
    exact ⟨u, by simpa using h1, h2⟩
theorem Reps.get' {T : Tx} {Z : Hp} : ∀ {ds : List D} {vs : List V} {i : Nat} {v : V}, Reps T Z ds vs → vs[i]? = some v → ∃ d, ds[i]? = some d ∧ Rep T Z d v := fun {ds vs i v} r e => by
  have hl := r.length
  have hi : i < vs.length := by
    rcases Nat.lt_or_ge i vs.length with h | h
    · exact h
    · rw [List.getElem?_eq_none h] at e; cases e
  obtain ⟨u, h1, h2⟩ := r.get (i := i) (d := ds[i]'(by omega)) (List.getElem?_eq_getElem (by omega))
  rw [e] at h1; cases h1
  exact ⟨_, List.getElem?_eq_getElem (by omega), h2⟩
theorem Reps.append {T : Tx} {Z : Hp} : ∀ {ds es : List D} {vs ws : List V}, Reps T Z ds vs → Reps T Z es ws → Reps T Z (ds ++ es) (vs ++ ws)
  | [], _, _, _, r, s => by rw [show _ = [] from r]; exact s
  | _ :: _, _, _, _, ⟨v, r, e, q, s⟩, t => ⟨v, r ++ _, by rw [e]; rfl, q, Reps.append s t⟩
theorem Reps.single {T : Tx} {Z : Hp} {d : D} {v : V} (h : Rep T Z d v) : Reps T Z [d] [v] := ⟨v, [], rfl, h, rfl⟩
theorem Reps.take {T : Tx} {Z : Hp} : ∀ {ds : List D} {vs : List V} (n : Nat), Reps T Z ds vs → Reps T Z (ds.take n) (vs.take n)
  | _, _, 0, _ => by simp [Reps]
  | [], _, n + 1, r => by rw [show _ = [] from r]; simp [Reps]
  | _ :: _, _, n + 1, ⟨v, r, e, q, s⟩ => by rw [e]; exact ⟨v, _, rfl, q, Reps.take n s⟩
theorem Reps.drop {T : Tx} {Z : Hp} : ∀ {ds : List D} {vs : List V} (n : Nat), Reps T Z ds vs → Reps T Z (ds.drop n) (vs.drop n)
  | _, _, 0, r => r
  | [], _, n + 1, r => by rw [show _ = [] from r]; simp [Reps]
  | _ :: _, _, n + 1, ⟨v, r, e, q, s⟩ => by rw [e]; exact Reps.drop n s
theorem Reps.set {T : Tx} {Z : Hp} {d : D} {v : V} (h : Rep T Z d v) : ∀ {ds : List D} {vs : List V} (i : Nat), Reps T Z ds vs → Reps T Z (ds.set i d) (vs.set i v)
  | [], _, _, r => by rw [show _ = [] from r]; simp [Reps]
  | _ :: _, _, 0, ⟨v', r, e, q, s⟩ => by rw [e]; exact ⟨v, r, rfl, h, s⟩
  | _ :: _, _, i + 1, ⟨v', r, e, q, s⟩ => by rw [e]; exact ⟨v', _, rfl, q, Reps.set h i s⟩
theorem Reps.reverse {T : Tx} {Z : Hp} : ∀ {ds : List D} {vs : List V}, Reps T Z ds vs → Reps T Z ds.reverse vs.reverse
  | [], _, r => by rw [show _ = [] from r]; simp [Reps]
  | _ :: _, _, ⟨v, r, e, q, s⟩ => by rw [e, List.reverse_cons, List.reverse_cons]; exact (Reps.reverse s).append (.single q)
theorem Reps.replicate {T : Tx} {Z : Hp} {ds : List D} {vs : List V} (h : Reps T Z ds vs) : ∀ n : Nat, Reps T Z (List.replicate n ds).flatten (List.replicate n vs).flatten
  | 0 => rfl
  | n + 1 => by rw [List.replicate_succ, List.replicate_succ, List.flatten_cons, List.flatten_cons]; exact h.append (Reps.replicate h n)
theorem RepF.length {T : Tx} {Z : Hp} : ∀ {ds : List (Str × D)} {vs : List (Str × V)}, RepF T Z ds vs → ds.length = vs.length
  | [], _, r => by rw [show _ = [] from r]; rfl
  | (_, _) :: _, _, ⟨v, r, e, _, s⟩ => by rw [e, List.length_cons, List.length_cons, RepF.length s]
theorem RepF.lookup {T : Tx} {Z : Hp} {f : Str} : ∀ {ds : List (Str × D)} {vs : List (Str × V)} {d : D}, RepF T Z ds vs → ds.lookup f = some d → ∃ v, vs.lookup f = some v ∧ Rep T Z d v
  | [], _, _, _, e => by simp at e
  | (g, d) :: ds, _, d', ⟨v, r, e, q, s⟩, h => by
    subst e
    rw [List.lookup_cons] at h ⊢
    cases hg : (f == g) with
    | true => rw [hg] at h; cases h; exact ⟨v, rfl, q⟩
    | false => rw [hg] at h; exact RepF.lookup s h
theorem RepF.lookup_none {T : Tx} {Z : Hp} {f : Str} : ∀ {ds : List (Str × D)} {vs : List (Str × V)}, RepF T Z ds vs → ds.lookup f = none → vs.lookup f = none
  | [], _, r, e => by rw [show _ = [] from r]; rfl
  | (g, d) :: ds, _, ⟨v, r, e, q, s⟩, h => by
    subst e
    rw [List.lookup_cons] at h ⊢
    cases hg : (f == g) with
    | true => rw [hg] at h; cases h
    | false => rw [hg] at h; exact RepF.lookup_none s h

/-- the object at a holds d; its parts are frozen -/
def OR (T : Tx) (H Z : Hp) (a : Addr) : D → Prop
  | .lst ds => ∃ vs, H a = some (.lst vs) ∧ Reps T Z ds vs
  | .dic kvs => ∃ es : List (Key × V), H a = some (.dK es) ∧ RepK T Z kvs es
  | .obj c fs => ∃ C dx gs, T.mg c = some (.ref C) ∧ H a = some (.ins C dx gs) ∧ RepF T Z fs gs
  | _ => False
theorem OR.there {T : Tx} {H Z : Hp} {a : Addr} {d : D} (h : OR T H Z a d) : ∃ o, H a = some o := by
  cases d with
  | lst _ => obtain ⟨_, e, _⟩ := h; exact ⟨_, e⟩
  | dic _ => obtain ⟨_, e, _⟩ := h; exact ⟨_, e⟩
  | obj _ _ => obtain ⟨_, _, _, _, e, _⟩ := h; exact ⟨_, e⟩
  | _ => exact h.elim
theorem OR.mut {T : Tx} {H Z : Hp} {a : Addr} {d : D} (h : OR T H Z a d) : Mut (H a) := by
  cases d with
  | lst _ => obtain ⟨_, e, _⟩ := h; rw [e]; trivial
  | dic _ => obtain ⟨_, e, _⟩ := h; rw [e]; trivial
  | obj _ _ => obtain ⟨_, _, _, _, e, _⟩ := h; rw [e]; trivial
  | _ => exact h.elim
theorem OR.mono {T : Tx} {H H' Z Z' : Hp} {a : Addr} {d : D} (h : OR T H Z a d) (e : H' a = H a) (z : Le Z Z') : OR T H' Z' a d := by
  cases d with
  | lst _ => obtain ⟨vs, q, r⟩ := h; exact ⟨vs, e.trans q, r.mono z⟩
  | dic _ => obtain ⟨vs, q, r⟩ := h; exact ⟨vs, e.trans q, r.mono z⟩
  | obj _ _ => obtain ⟨C, dx, gs, m, q, r⟩ := h; exact ⟨C, dx, gs, m, e.trans q, r.mono z⟩
  | _ => exact h.elim
/-- frozen from now on -/
theorem OR.rep {T : Tx} {H Z : Hp} {a : Addr} {d : D} {o : HO} (h : OR T H Z a d) (e : Z a = some o) (e' : H a = some o) : Rep T Z d (.ref a) := by
  cases d with
  | lst _ => obtain ⟨vs, q, r⟩ := h; rw [q] at e'; cases e'; exact ⟨a, vs, rfl, .inl e, r⟩
  | dic _ => obtain ⟨vs, q, r⟩ := h; rw [q] at e'; cases e'; exact ⟨a, rfl, vs, e, r⟩
  | obj _ _ => obtain ⟨C, dx, gs, m, q, r⟩ := h; rw [q] at e'; cases e'; exact ⟨a, C, dx, gs, rfl, m, e, r⟩
  | _ => exact h.elim

/-- a slot that holds the suite's error -/
def XSl (T : Tx) (Z : Hp) (x : Exc) (v : Option (Option V)) : Prop := ∃ a oe C, T.ex = some (a, oe) ∧ v = some (some (.ref a)) ∧ T.mg x.1 = some (.ref C) ∧ oe.cls = .ref C ∧ (∃ vs, oe.data = .fields vs) ∧
  ((x.2 = [] ∧ oe.dict = none) ∨ x.2 ≠ [] ∧ ∃ dd gs, oe.dict = some dd ∧ Z dd = some (.xd gs) ∧ RepF T Z x.2 gs)
theorem XSl.mono {T : Tx} {Z Z' : Hp} {x : Exc} {v : Option (Option V)} (h : XSl T Z x v) (s : Le Z Z') : XSl T Z' x v := by
  obtain ⟨a, oe, C, h1, h2, h3, h4, h5, h6⟩ := h
  exact ⟨a, oe, C, h1, h2, h3, h4, h5, h6.elim .inl fun ⟨n, dd, gs, e, z, r⟩ => .inr ⟨n, dd, gs, e, s _ _ z, r.mono s⟩⟩
def SlOk (T : Tx) (H Z : Hp) (x : Option (Option V)) : Sl → Prop
  | .emp => True
  | .val d => ∃ v, x = some (some v) ∧ Rep T Z d v
  | .own d => ∃ a, x = some (some (.ref a)) ∧ OR T H Z a d ∧ Z a = none
  | .bor d => ∃ a, x = some (some (.ref a)) ∧ OR T H Z a d
  | .exn y => XSl T Z y x
/-- a is held by an own slot; by an own or a borrowed one -/
def OwnA (ρ : En) (σ : L2.St) (a : Addr) : Prop := ∃ (i : Nat) (d : D), ρ[i]? = some (.own d) ∧ σ[i]? = some (some (.ref a))
def BorA (ρ : En) (σ : L2.St) (a : Addr) : Prop := ∃ (i : Nat) (d : D), ρ[i]? = some (.bor d) ∧ σ[i]? = some (some (.ref a))

/-- a state: the slots, the heap, the frozen heap -/
structure SOk (T : Tx) (ρ : En) (σ : L2.St) (H Z : Hp) : Prop where
  len : ρ.length = σ.length
  sub : Le Z H
  slot : ∀ (i : Nat) (s : Sl), ρ[i]? = some s → SlOk T H Z σ[i]? s
  inj : ∀ (i j : Nat) (d d' : D) (a : Addr), ρ[i]? = some (.own d) → ρ[j]? = some (.own d') → σ[i]? = some (some (.ref a)) → σ[j]? = some (some (.ref a)) → i = j
  sep : ∀ a, OwnA ρ σ a → BorA ρ σ a → False
theorem SOk.own {T : Tx} {ρ : En} {σ : L2.St} {H Z : Hp} (S : SOk T ρ σ H Z) {a : Addr} (h : OwnA ρ σ a) : Z a = none ∧ ∃ o, H a = some o := by
  obtain ⟨i, d, h1, h2⟩ := h
  obtain ⟨b, e, r, z⟩ := S.slot i _ h1
  rw [h2] at e; cases e
  exact ⟨z, r.there⟩
theorem SOk.bor {T : Tx} {ρ : En} {σ : L2.St} {H Z : Hp} (S : SOk T ρ σ H Z) {a : Addr} (h : BorA ρ σ a) : ∃ o, H a = some o := by
  obtain ⟨i, d, h1, h2⟩ := h
  obtain ⟨b, e, r⟩ := S.slot i _ h1
  rw [h2] at e; cases e
  exact r.there

/-- from one state to a later one -/
structure Step (ρ : En) (σ : L2.St) (H Z : Hp) (ρ' : En) (σ' : L2.St) (H' Z' : Hp) : Prop where
  frame : ∀ a o, H a = some o → ¬ OwnA ρ σ a → H' a = some o
  le : Le Z Z'
  grow : ∀ a o, Z' a = some o → Z a = some o ∨ H a = none ∨ OwnA ρ σ a
  own : ∀ a, OwnA ρ' σ' a → OwnA ρ σ a ∨ H a = none
  kept : ∀ a, (∃ o, H a = some o) → ∃ o, H' a = some o
  bor : ∀ (i : Nat) (d : D), ρ'[i]? = some (.bor d) → ρ[i]? = some (.bor d) ∧ σ'[i]? = σ[i]?
  obj : ∀ (i : Nat) (d : D), ρ'[i]? = some (.own d) → isObj d = true → (∃ d0, ρ[i]? = some (.own d0) ∧ isObj d0 = true) ∧ σ'[i]? = σ[i]?
theorem Step.refl (ρ : En) (σ : L2.St) (H Z : Hp) : Step ρ σ H Z ρ σ H Z :=
  ⟨fun _ _ h _ => h, .refl Z, fun _ _ h => .inl h, fun _ h => .inl h, fun _ h => h, fun _ _ h => ⟨h, rfl⟩, fun _ d h o => ⟨⟨d, h, o⟩, rfl⟩⟩
theorem none_of_kept {H H' : Hp} (k : ∀ a, (∃ o, H a = some o) → ∃ o, H' a = some o) {a : Addr} (h : H' a = none) : H a = none := by
  cases e : H a with
  | none => rfl
  | some o => obtain ⟨o', q⟩ := k a ⟨o, e⟩; rw [h] at q; cases q
theorem Step.trans {ρ ρ1 ρ2 : En} {σ σ1 σ2 : L2.St} {H H1 H2 Z Z1 Z2 : Hp} (s : Step ρ σ H Z ρ1 σ1 H1 Z1) (t : Step ρ1 σ1 H1 Z1 ρ2 σ2 H2 Z2) : Step ρ σ H Z ρ2 σ2 H2 Z2 where
  frame := fun a o h n => t.frame a o (s.frame a o h n) fun q => (s.own a q).elim n fun z => by rw [h] at z; cases z
  le := s.le.trans t.le
  grow := fun a o h => (t.grow a o h).elim (fun q => s.grow a o q) fun q => q.elim (fun z => .inr (.inl (none_of_kept s.kept z))) fun z => (s.own a z).elim (fun y => .inr (.inr y)) fun y => .inr (.inl y)
  own := fun a h => (t.own a h).elim (fun q => s.own a q) fun z => .inr (none_of_kept s.kept z)
  kept := fun a h => t.kept a (s.kept a h)
  bor := fun i d h => by
    obtain ⟨h1, e1⟩ := t.bor i d h
    obtain ⟨h2, e2⟩ := s.bor i d h1
    exact ⟨h2, e1.trans e2⟩
  obj := fun i d h o => by
    obtain ⟨⟨d1, h1, o1⟩, e1⟩ := t.obj i d h o
    obtain ⟨h2, e2⟩ := s.obj i d1 h1 o1
    exact ⟨h2, e1.trans e2⟩
/-- .. of an expression: no object changes, no slot -/
structure EStep (ρ : En) (σ : L2.St) (H Z : Hp) (ρ' : En) (H' Z' : Hp) : Prop where
  step : Step ρ σ H Z ρ' σ H' Z'
  same : Le H H'
  len : ρ'.length = ρ.length
  ownE : ∀ a, OwnA ρ' σ a → OwnA ρ σ a
theorem EStep.refl (ρ : En) (σ : L2.St) (H Z : Hp) : EStep ρ σ H Z ρ H Z := ⟨.refl _ _ _ _, .refl _, rfl, fun _ h => h⟩
theorem EStep.trans {ρ ρ1 ρ2 : En} {σ : L2.St} {H H1 H2 Z Z1 Z2 : Hp} (s : EStep ρ σ H Z ρ1 H1 Z1) (t : EStep ρ1 σ H1 Z1 ρ2 H2 Z2) : EStep ρ σ H Z ρ2 H2 Z2 :=
  ⟨s.step.trans t.step, s.same.trans t.same, t.len.trans s.len, fun a h => s.ownE a (t.ownE a h)⟩

/-- a result's value. H: the heap ahead of it -/
def RvOk (T : Tx) (ρ : En) (σ : L2.St) (H : Hp) (ρ' : En) (H' Z' : Hp) (v : V) : Rv → Prop
  | .val d => Rep T Z' d v
  | .own d => ∃ a, v = .ref a ∧ OR T H' Z' a d ∧ Z' a = none ∧ (H a = none ∨ OwnA ρ σ a) ∧ ¬ OwnA ρ' σ a ∧ ¬ BorA ρ' σ a ∧ isObj d = false
  | .bor d => ∃ a, v = .ref a ∧ OR T H' Z' a d
/-- what can be read at v -/
def RdOk (T : Tx) (H Z : Hp) (v : V) (d : D) : Prop := Rep T Z d v ∨ ∃ a, v = .ref a ∧ OR T H Z a d
theorem RvOk.read {T : Tx} {ρ ρ' : En} {σ : L2.St} {H H' Z' : Hp} {v : V} {r : Rv} (h : RvOk T ρ σ H ρ' H' Z' v r) : RdOk T H' Z' v r.d := by
  cases r with
  | val d => exact .inl h
  | own d => obtain ⟨a, e, r, _⟩ := h; exact .inr ⟨a, e, r⟩
  | bor d => obtain ⟨a, e, r⟩ := h; exact .inr ⟨a, e, r⟩
theorem RdOk.mono {T : Tx} {H H' Z Z' : Hp} {v : V} {d : D} (h : RdOk T H Z v d) (s : Le H H') (z : Le Z Z') : RdOk T H' Z' v d := by
  rcases h with h | ⟨a, e, h⟩
  · exact .inl (h.mono z)
  · obtain ⟨o, q⟩ := h.there
    exact .inr ⟨a, e, h.mono ((s a o q).trans q.symm) z⟩
/-- Z at a new or own address: frozen there as H has it -/
def frz (Z H : Hp) (a : Addr) : Hp := fun b => if b = a then H a else Z b
theorem frz_le {Z H : Hp} {a : Addr} (h : Z a = none) : Le Z (frz Z H a) := fun b o e => by
  unfold frz
  by_cases hb : b = a
  · subst hb; rw [h] at e; cases e
  · rw [if_neg hb]; exact e
theorem frz_at {Z H : Hp} {a : Addr} : frz Z H a a = H a := by unfold frz; rw [if_pos rfl]
theorem frz_ne {Z H : Hp} {a b : Addr} (h : b ≠ a) : frz Z H a b = Z b := by unfold frz; rw [if_neg h]
theorem frz_sub {Z H : Hp} {a : Addr} (h : Le Z H) : Le (frz Z H a) H := fun b o e => by
  unfold frz at e
  by_cases hb : b = a
  · subst hb; rw [if_pos rfl] at e; exact e
  · rw [if_neg hb] at e; exact h b o e
end CI
end
section
/-! CISnd: judgements, composition. -/
namespace CI
open PySem L2 PyProof.Rows

abbrev tx (X : Cx) : Tx := ⟨X.K, X.mg, match X.calm with
  | true => none
  | false => X.pn.head?⟩
abbrev tx0 (X : Cx) : Tx := ⟨X.K, X.mg, none⟩
theorem tx_calm {X : Cx} (hc : X.calm = true) : tx X = tx0 X := by unfold tx tx0; rw [hc]
/-- an exception: its class, its own dict -/
def XOk (T : Tx) (Z : Hp) (x : Exc) (cls : Value) (d : Option Addr) : Prop :=
  ∃ C, T.mg x.1 = some (.ref C) ∧ cls = .ref C ∧ ((x.2 = [] ∧ d = none) ∨ x.2 ≠ [] ∧ ∃ a gs, d = some a ∧ Z a = some (.xd gs) ∧ RepF T Z x.2 gs)

/-- a kind of results: what a result says of what the model hands back -/
structure Kd (α β : Type) where
  ok : Tx → En → L2.St → Hp → En → Hp → Hp → β → α → Prop
  base : ∀ {T ρ σ H Z ρ1 H1 Z1 ρ' H' Z' b a}, EStep ρ σ H Z ρ1 H1 Z1 → ok T ρ1 σ H1 ρ' H' Z' b a → ok T ρ σ H ρ' H' Z' b a
theorem own_base {ρ ρ1 : En} {σ σ1 : L2.St} {H H1 Z Z1 : Hp} (s : Step ρ σ H Z ρ1 σ1 H1 Z1) {a : Addr} (h : H1 a = none ∨ OwnA ρ1 σ1 a) : H a = none ∨ OwnA ρ σ a :=
  h.elim (fun z => .inl (none_of_kept s.kept z)) fun q => (s.own a q).elim .inr .inl
def kE : Kd Rv V where
  ok := fun T ρ σ H ρ' H' Z' v r => RvOk T ρ σ H ρ' H' Z' v r
  base := fun {T ρ σ H Z ρ1 H1 Z1 ρ' H' Z' b a} s h => by
    cases a with
    | val d => exact h
    | bor d => exact h
    | own d =>
      obtain ⟨p, e, r, z, n, o1, o2, o3⟩ := h
      exact ⟨p, e, r, z, own_base s.step n, o1, o2, o3⟩
def kB : Kd Bool Bool := ⟨fun _ _ _ _ _ _ _ b c => b = c, fun _ h => h⟩
/-- data kept -/
def kD : Kd D V := ⟨fun T _ _ _ _ _ Z' v d => Rep T Z' d v, fun _ h => h⟩
/-- data kept, many -/
def kDs : Kd (List D) (List V) := ⟨fun T _ _ _ _ _ Z' vs ds => Reps T Z' ds vs, fun _ h => h⟩
/-- arguments -/
def ArgOk (T : Tx) (H Z : Hp) (v : V) : Rv → Prop
  | .val d => Rep T Z d v
  | .own _ => False
  | .bor d => ∃ a, v = .ref a ∧ OR T H Z a d
def ArgsOk (T : Tx) (H Z : Hp) : List V → List Rv → Prop
  | [], [] => True
  | v :: vs, r :: rs => ArgOk T H Z v r ∧ ArgsOk T H Z vs rs
  | _, _ => False
def kA : Kd (List Rv) (List V) := ⟨fun T _ _ _ _ H' Z' vs rs => ArgsOk T H' Z' vs rs, fun _ h => h⟩
theorem ArgOk.mono {T : Tx} {H H' Z Z' : Hp} {v : V} {r : Rv} (h : ArgOk T H Z v r) (s : Le H H') (z : Le Z Z') : ArgOk T H' Z' v r := by
  cases r with
  | val d => exact Rep.mono z h
  | own d => exact h
  | bor d =>
    obtain ⟨a, e, r⟩ := h
    obtain ⟨o, q⟩ := r.there
    exact ⟨a, e, r.mono ((s a o q).trans q.symm) z⟩
theorem ArgsOk.mono {T : Tx} {H H' Z Z' : Hp} : ∀ {vs : List V} {rs : List Rv}, ArgsOk T H Z vs rs → Le H H' → Le Z Z' → ArgsOk T H' Z' vs rs
  | [], [], _, _, _ => trivial
  | _ :: _, _ :: _, h, s, z => ⟨h.1.mono s z, ArgsOk.mono h.2 s z⟩
  | [], _ :: _, h, _, _ => h.elim
  | _ :: _, [], h, _, _ => h.elim
theorem ArgsOk.length {T : Tx} {H Z : Hp} : ∀ {vs : List V} {rs : List Rv}, ArgsOk T H Z vs rs → vs.length = rs.length
  | [], [], _ => rfl
  | _ :: _, _ :: _, h => by rw [List.length_cons, List.length_cons, ArgsOk.length h.2]
  | [], _ :: _, h => h.elim
  | _ :: _, [], h => h.elim

section
variable {α β γ δ : Type} {T : Tx} {ρ ρ1 : En} {σ : L2.St} {H H1 Z Z1 : Hp} {W : WX}
/-- what is wanted behind an outcome -/
def Po (k : Kd α β) (T : Tx) (ρ : En) (σ : L2.St) (H Z : Hp) (o : Out α) (W : WX) (Q : β → Hp → Prop) : Prop := match o with
  | .ok a ρ' => ∀ b H' Z', SOk T ρ' σ H' Z' → EStep ρ σ H Z ρ' H' Z' → k.ok T ρ σ H ρ' H' Z' b a → Q b H'
  | .exc x ρ' => ∀ cls d H' Z', SOk T ρ' σ H' Z' → EStep ρ σ H Z ρ' H' Z' → XOk T Z' x cls d → W cls d σ H'
  | .stuck => False
theorem Po.later {k : Kd α β} {o : Out α} {Q : β → Hp → Prop} (h : Po k T ρ σ H Z o W Q) (s : EStep ρ σ H Z ρ1 H1 Z1) : Po k T ρ1 σ H1 Z1 o W Q := by
  cases o with
  | ok a ρ' => exact fun b H' Z' S E q => h b H' Z' S (s.trans E) (k.base s q)
  | exc x ρ' => exact fun cls d H' Z' S E q => h cls d H' Z' S (s.trans E) q
  | stuck => exact h
theorem Po.bnd {k1 : Kd α β} {k2 : Kd γ δ} {m : Mn α} {f : α → Mn γ} {Q : δ → Hp → Prop} {R : β → Hp → Prop} (h : Po k2 T ρ σ H Z (bnd m f ρ) W Q)
    (hk : ∀ r b ρ1 H1 Z1, SOk T ρ1 σ H1 Z1 → EStep ρ σ H Z ρ1 H1 Z1 → k1.ok T ρ σ H ρ1 H1 Z1 b r → Po k2 T ρ1 σ H1 Z1 (f r ρ1) W Q → R b H1) : Po k1 T ρ σ H Z (m ρ) W R := by
  unfold CI.bnd at h
  cases e : m ρ with
  | ok a ρ' => rw [e] at h; exact fun b H' Z' S E q => hk a b ρ' H' Z' S E q (h.later E)
  | exc x ρ' => rw [e] at h; exact h
  | stuck => rw [e] at h; exact h
theorem Po.out {k : Kd α β} {a : α} {b : β} {Q : β → Hp → Prop} (h : Po k T ρ σ H Z (ret a ρ) W Q) (S : SOk T ρ σ H Z) (q : k.ok T ρ σ H ρ H Z b a) : Q b H := h b H Z S (.refl _ _ _ _) q
theorem Po.ofO {k : Kd α β} {o : Option α} {Q : β → Hp → Prop} (h : Po k T ρ σ H Z (CI.ofO o ρ) W Q) : ∃ a, o = some a ∧ Po k T ρ σ H Z (ret a ρ) W Q := by
  cases o with
  | none => exact h.elim
  | some a => exact ⟨a, rfl, h⟩
/-- the reading of a construct -/
def tK (k : Kd α β) (T : Tx) (W : WX) (c : Mn α) : L2.St → Hp → (β → Hp → Prop) → Prop := fun σ H Q => ∃ ρ Z, SOk T ρ σ H Z ∧ Po k T ρ σ H Z (c ρ) W Q
end

/-- an expression, a test, arguments -/
structure SE (X : Cx) (e : Expr) (c : Mn Rv) : Prop where
  run : ∀ W, Takes X W → PE X e (tK kE (tx X) W c)
structure STt (X : Cx) (e : Expr) (c : Mn Bool) : Prop where
  run : ∀ W, Takes X W → PT X e (tK kB (tx X) W c)
structure SA (X : Cx) (es : List Expr) (c : Mn (List Rv)) : Prop where
  run : ∀ W, Takes X W → PA X es (tK kA (tx X) W c)
structure SDs (X : Cx) (es : List Expr) (c : Mn (List D)) : Prop where
  run : ∀ W, Takes X W → PA X es (tK kDs (tx X) W c)
structure SD (X : Cx) (e : Expr) (c : Mn D) : Prop where
  run : ∀ W, Takes X W → PE X e (tK kD (tx X) W c)

section
variable {X : Cx} {e : Expr} {t u : TE}
theorem peI (h : PE X e t) (k : ∀ σ H Q, u σ H Q → t σ H Q) : PE X e u := ⟨fun pins s σ H Q I q => h.run pins s σ H Q I (k σ H Q q)⟩
theorem ptI {t u : TT} (h : PT X e t) (k : ∀ σ H Q, u σ H Q → t σ H Q) : PT X e u := ⟨fun pins s σ H Q I q => h.run pins s σ H Q I (k σ H Q q)⟩
theorem paI {es : List Expr} {t u : TA} (h : PA X es t) (k : ∀ σ H Q, u σ H Q → t σ H Q) : PA X es u := ⟨fun pos pins s σ H Q I q => h.run pos pins s σ H Q I (k σ H Q q)⟩
theorem psI {st : Stmt} {t u : TS} (h : PS X st t) (k : ∀ D σ H, u D σ H → t D σ H) : PS X st u := ⟨fun pins s σ H D I q => h.run pins s σ H D I (k D σ H q)⟩
theorem pssI {st : List Stmt} {t u : TS} (h : PSs X st t) (k : ∀ D σ H, u D σ H → t D σ H) : PSs X st u := ⟨fun pins s σ H D I q => h.run pins s σ H D I (k D σ H q)⟩
end

/-! ### new objects, freezing -/
section
variable {T : Tx} {ρ : En} {σ : L2.St} {H Z : Hp} {p : Addr} {o : HO}
theorem upd_le (hp : H p = none) : Le H (upd H p o) := fun a u e => by rw [upd_ne (ne_of_none e hp)]; exact e
theorem SOk.slots {T : Tx} {ρ : En} {σ : L2.St} {H Z H' Z' : Hp} (S : SOk T ρ σ H Z) (hs : Le Z' H') (hH : Le H H') (hZ : Le Z Z') (hn : ∀ a, OwnA ρ σ a → Z' a = none) : SOk T ρ σ H' Z' := by
  refine ⟨S.len, hs, fun i s h => ?_, S.inj, S.sep⟩
  have q := S.slot i s h
  cases s with
  | emp => trivial
  | exn x => exact XSl.mono q hZ
  | val d => obtain ⟨v, e, r⟩ := q; exact ⟨v, e, r.mono hZ⟩
  | own d =>
    obtain ⟨a, e, r, z⟩ := q
    obtain ⟨u, hu⟩ := r.there
    exact ⟨a, e, r.mono ((hH a u hu).trans hu.symm) hZ, hn a ⟨i, d, h, e⟩⟩
  | bor d =>
    obtain ⟨a, e, r⟩ := q
    obtain ⟨u, hu⟩ := r.there
    exact ⟨a, e, r.mono ((hH a u hu).trans hu.symm) hZ⟩
/-- a new object, not frozen -/
theorem SOk.new (S : SOk T ρ σ H Z) (hp : H p = none) : SOk T ρ σ (upd H p o) Z :=
  S.slots (S.sub.trans (upd_le hp)) (upd_le hp) (.refl _) fun a h => (S.own h).1
theorem EStep.new (hp : H p = none) : EStep ρ σ H Z ρ (upd H p o) Z :=
  ⟨⟨fun a u e _ => upd_le hp a u e, .refl _, fun a u e => .inl e, fun a h => .inl h, fun a ⟨u, e⟩ => ⟨u, upd_le hp a u e⟩, fun i d h => ⟨h, rfl⟩, fun _ d h o => ⟨⟨d, h, o⟩, rfl⟩⟩, upd_le hp, rfl, fun _ h => h⟩
theorem SOk.zfree (S : SOk T ρ σ H Z) (hp : H p = none) : Z p = none := by
  cases e : Z p with
  | none => rfl
  | some u => rw [S.sub p u e] at hp; cases hp
theorem SOk.notOwn (S : SOk T ρ σ H Z) (hp : H p = none) : ¬ OwnA ρ σ p := fun h => by
  obtain ⟨_, u, e⟩ := S.own h
  rw [e] at hp; cases hp
theorem SOk.notBor (S : SOk T ρ σ H Z) (hp : H p = none) : ¬ BorA ρ σ p := fun h => by
  obtain ⟨u, e⟩ := S.bor h
  rw [e] at hp; cases hp
/-- .. frozen at once -/
theorem SOk.newZ (S : SOk T ρ σ H Z) (hp : H p = none) : SOk T ρ σ (upd H p o) (upd Z p o) := by
  refine S.slots (fun a u e => ?_) (upd_le hp) (upd_le (S.zfree hp)) fun a h => ?_
  · by_cases ha : a = p
    · subst ha; rw [upd_same] at e ⊢; exact e
    · rw [upd_ne ha] at e ⊢; exact S.sub a u e
  · have ha : a ≠ p := fun z => S.notOwn hp (z ▸ h)
    rw [upd_ne ha]
    exact (S.own h).1
theorem EStep.newZ (S : SOk T ρ σ H Z) (hp : H p = none) : EStep ρ σ H Z ρ (upd H p o) (upd Z p o) :=
  ⟨⟨fun a u e _ => upd_le hp a u e, upd_le (S.zfree hp), fun a u e => by
    by_cases ha : a = p
    · subst ha; exact .inr (.inl hp)
    · rw [upd_ne ha] at e; exact .inl e, fun a h => .inl h, fun a ⟨u, e⟩ => ⟨u, upd_le hp a u e⟩, fun i d h => ⟨h, rfl⟩, fun _ d h o => ⟨⟨d, h, o⟩, rfl⟩⟩, upd_le hp, rfl, fun _ h => h⟩
/-- a fresh list, as a result -/
theorem rv_lst (S : SOk T ρ σ H Z) (hp : H p = none) {ds : List D} {vs : List V} (r : Reps T Z ds vs) : RvOk T ρ σ H ρ (upd H p (.lst vs)) Z (.ref p) (.own (.lst ds)) :=
  ⟨p, rfl, ⟨vs, upd_same, r⟩, S.zfree hp, .inl hp, S.notOwn hp, S.notBor hp, rfl⟩
theorem rv_tup (S : SOk T ρ σ H Z) (hp : H p = none) {ds : List D} {vs : List V} (r : Reps T Z ds vs) : Rep T (upd Z p (.tup vs)) (.tup ds) (.ref p) :=
  ⟨p, vs, rfl, .of upd_same, r.mono (upd_le (S.zfree hp))⟩
/-- what is not frozen and not in a slot is frozen -/
theorem SOk.freeze (S : SOk T ρ σ H Z) (hz : Z p = none) (ho : ¬ OwnA ρ σ p) : SOk T ρ σ H (frz Z H p) :=
  S.slots (frz_sub S.sub) (.refl _) (frz_le hz) fun a h => by
    have ha : a ≠ p := fun z => ho (z ▸ h)
    rw [frz_ne ha]
    exact (S.own h).1
theorem OwnA.set_out {i : Nat} {s : Sl} {a : Addr} (hs : ∀ d, s ≠ .own d) (h : OwnA (ρ.set i s) σ a) : OwnA ρ σ a := by
  obtain ⟨j, d, h1, h2⟩ := h
  by_cases hj : i = j
  · subst hj
    by_cases hl : i < ρ.length
    · rw [List.getElem?_set_self hl] at h1; exact absurd (Option.some.inj h1) (hs d)
    · rw [List.getElem?_eq_none (by simpa using hl)] at h1; cases h1
  · rw [List.getElem?_set_ne hj] at h1
    exact ⟨j, d, h1, h2⟩
end
end CI
end
section
/-! CIExp: names, constants, operators, tests, arguments, displays. -/
namespace CI
open PySem L2 PyProof.Rows
section
variable {X : Cx} {e a b : Expr} {c ca cb : Mn Rv} {pos : Pos} {i : Nat} {x : Str}
theorem tE_of {k : Kd α β} {t : L2.St → Hp → (β → Hp → Prop) → Prop} {T : Tx} {W : WX} {m : Mn α} (h : ∀ ρ σ H Z Q, SOk T ρ σ H Z → Po k T ρ σ H Z (m ρ) W Q → t σ H Q) : ∀ σ H Q, tK k T W m σ H Q → t σ H Q := fun σ H Q ⟨ρ, Z, S, p⟩ => h ρ σ H Z Q S p

/-! names -/
theorem SOk.slotAt {T : Tx} {ρ : En} {σ : L2.St} {H Z : Hp} (S : SOk T ρ σ H Z) {s : Sl} (h : ρ[i]? = some s) : SlOk T H Z σ[i]? s := S.slot i s h
theorem se_var (hN : X.N[i]? = some x) (hv : Vis X.env.scope x) (hd : (x == ("__debug__" : Str)) = false := by decide) (hcd : (x == ("__classdict__" : Str)) = false := by decide) : SE X (.Name x pos) (cVar i) := by
  refine ⟨fun W tk => peI (pe_var hN hv hd hcd) (tE_of fun ρ σ H Z Q S p => ?_)⟩
  unfold cVar at p
  cases q : ρ[i]? with
  | none => rw [q] at p; exact p.elim
  | some s =>
    have z := S.slotAt q
    rw [q] at p
    cases s with
    | emp => exact p.elim
    | exn _ => exact p.elim
    | val d =>
      obtain ⟨v, ev, r⟩ := z
      exact ⟨v, ev, Po.out (k := kE) (a := .val d) p S r⟩
    | own d =>
      obtain ⟨a, ev, r, _⟩ := z
      exact ⟨_, ev, Po.out (k := kE) (a := .bor d) p S ⟨a, rfl, r⟩⟩
    | bor d =>
      obtain ⟨a, ev, r⟩ := z
      exact ⟨_, ev, Po.out (k := kE) (a := .bor d) p S ⟨a, rfl, r⟩⟩
theorem set_get_ne {ρ : En} {s : Sl} {j : Nat} (h : i ≠ j) : (ρ.set i s)[j]? = ρ[j]? := List.getElem?_set_ne h
theorem set_get {ρ : En} {s s' : Sl} {j : Nat} (h : (ρ.set i s)[j]? = some s') : (i = j ∧ s' = s) ∨ (i ≠ j ∧ ρ[j]? = some s') := by
  by_cases hj : i = j
  · subst hj
    by_cases hl : i < ρ.length
    · rw [List.getElem?_set_self hl] at h; exact .inl ⟨rfl, (Option.some.inj h).symm⟩
    · rw [List.getElem?_eq_none (by simpa using hl)] at h; cases h
  · rw [List.getElem?_set_ne hj] at h; exact .inr ⟨hj, h⟩
theorem BorA.set_out {ρ : En} {σ : L2.St} {s : Sl} {a : Addr} (hs : ∀ d, s ≠ .bor d) (h : BorA (ρ.set i s) σ a) : BorA ρ σ a := by
  obtain ⟨j, d, h1, h2⟩ := h
  rcases set_get h1 with ⟨_, e⟩ | ⟨_, e⟩
  · exact absurd e.symm (hs d)
  · exact ⟨j, d, e, h2⟩
/-- slot i, an own one, is left: emptied, or frozen -/
theorem SOk.leave {T : Tx} {ρ : En} {σ : L2.St} {H Z : Hp} (S : SOk T ρ σ H Z) {d : D} {a : Addr} {s : Sl} {Z' : Hp} (h : ρ[i]? = some (.own d)) (ha : σ[i]? = some (some (.ref a)))
    (hs : s = .emp ∨ s = .val d) (hz : Le Z' H) (hle : Le Z Z') (hn : ∀ b, b ≠ a → Z' b = Z b) (hr : s = .val d → Rep T Z' d (.ref a)) : SOk T (ρ.set i s) σ H Z' := by
  have no : ∀ d', s ≠ .own d' := fun d' z => by rcases hs with e | e <;> rw [e] at z <;> cases z
  have nb : ∀ d', s ≠ .bor d' := fun d' z => by rcases hs with e | e <;> rw [e] at z <;> cases z
  have apart : ∀ (j : Nat) (d' : D) (b : Addr), i ≠ j → ρ[j]? = some (.own d') → σ[j]? = some (some (.ref b)) → b ≠ a := fun j d' b hj h1 h2 z => by
    subst z; exact hj (S.inj i j d d' b h h1 ha h2)
  refine ⟨by rw [List.length_set]; exact S.len, hz, fun j s' hj => ?_, fun j k d1 d2 b h1 h2 => ?_, fun b hb hc => S.sep b (hb.set_out no) (hc.set_out nb)⟩
  · rcases set_get hj with ⟨rfl, rfl⟩ | ⟨hne, hj⟩
    · rcases hs with rfl | rfl
      · trivial
      · exact ⟨_, ha, hr rfl⟩
    · have z := S.slot j s' hj
      cases s' with
      | emp => trivial
      | exn _ => exact XSl.mono z hle
      | val d' => obtain ⟨v, e, r⟩ := z; exact ⟨v, e, r.mono hle⟩
      | own d' =>
        obtain ⟨b, e, r, zn⟩ := z
        exact ⟨b, e, r.mono rfl hle, by rw [hn b (apart j d' b hne hj e)]; exact zn⟩
      | bor d' => obtain ⟨b, e, r⟩ := z; exact ⟨b, e, r.mono rfl hle⟩
  · rcases set_get h1 with ⟨rfl, e⟩ | ⟨_, h1⟩
    · exact absurd e.symm (no d1)
    · rcases set_get h2 with ⟨rfl, e⟩ | ⟨_, h2⟩
      · exact absurd e.symm (no d2)
      · exact S.inj j k d1 d2 b h1 h2
theorem EStep.leave {T : Tx} {ρ : En} {σ : L2.St} {H Z : Hp} {s : Sl} {Z' : Hp} {a : Addr} {d : D} (h : ρ[i]? = some (.own d)) (ha : σ[i]? = some (some (.ref a))) (no : ∀ d', s ≠ .own d') (nb : ∀ d', s ≠ .bor d')
    (hle : Le Z Z') (hn : ∀ b, b ≠ a → Z' b = Z b) : EStep ρ σ H Z (ρ.set i s) H Z' :=
  ⟨⟨fun _ _ q _ => q, hle, fun b o q => by
    by_cases hb : b = a
    · subst hb; exact .inr (.inr ⟨i, d, h, ha⟩)
    · rw [hn b hb] at q; exact .inl q, fun b q => .inl (q.set_out no), fun _ q => q, fun j d' q => by
    rcases set_get q with ⟨_, e⟩ | ⟨_, e⟩
    · exact absurd e.symm (nb d')
    · exact ⟨e, rfl⟩, fun j d' q ob => by
    rcases set_get q with ⟨_, e⟩ | ⟨_, e⟩
    · exact absurd e.symm (no d')
    · exact ⟨⟨d', e, ob⟩, rfl⟩⟩, .refl _, by rw [List.length_set], fun b q => q.set_out no⟩
theorem se_frz (hN : X.N[i]? = some x) (hv : Vis X.env.scope x) (hd : (x == ("__debug__" : Str)) = false := by decide) (hcd : (x == ("__classdict__" : Str)) = false := by decide) : SE X (.Name x pos) (cFrz i) := by
  refine ⟨fun W tk => peI (pe_var hN hv hd hcd) (tE_of fun ρ σ H Z Q S p => ?_)⟩
  unfold cFrz at p
  cases q : ρ[i]? with
  | none => rw [q] at p; exact p.elim
  | some s =>
    have z := S.slotAt q
    rw [q] at p
    cases s with
    | emp => exact p.elim
    | exn _ => exact p.elim
    | bor _ => exact p.elim
    | val d =>
      obtain ⟨v, ev, r⟩ := z
      exact ⟨v, ev, Po.out (k := kE) (a := .val d) p S r⟩
    | own d =>
      obtain ⟨a, ev, r, zn⟩ := z
      obtain ⟨o, ho⟩ := r.there
      have rp : Rep (tx X) (frz Z H a) d (.ref a) := (r.mono rfl (frz_le zn)).rep (frz_at.trans ho) ho
      refine ⟨_, ev, p (.ref a) H (frz Z H a) (S.leave q ev (.inr rfl) (frz_sub S.sub) (frz_le zn) (fun b hb => frz_ne hb) fun _ => rp) (EStep.leave (T := tx X) q ev (fun _ z => by cases z) (fun _ z => by cases z) (frz_le zn) fun b hb => frz_ne hb) rp⟩
theorem se_mv (hN : X.N[i]? = some x) (hv : Vis X.env.scope x) (hd : (x == ("__debug__" : Str)) = false := by decide) (hcd : (x == ("__classdict__" : Str)) = false := by decide) : SE X (.Name x pos) (cMv i) := by
  refine ⟨fun W tk => peI (pe_var hN hv hd hcd) (tE_of fun ρ σ H Z Q S p => ?_)⟩
  unfold cMv at p
  cases q : ρ[i]? with
  | none => rw [q] at p; exact p.elim
  | some s =>
    have z := S.slotAt q
    rw [q] at p
    cases s with
    | emp => exact p.elim
    | exn _ => exact p.elim
    | bor _ => exact p.elim
    | val d =>
      obtain ⟨v, ev, r⟩ := z
      exact ⟨v, ev, Po.out (k := kE) (a := .val d) p S r⟩
    | own d =>
      obtain ⟨a, ev, r, zn⟩ := z
      simp only at p
      by_cases ho : isObj d = true
      · rw [if_pos ho] at p; exact p.elim
      rw [if_neg ho] at p
      refine ⟨_, ev, p (.ref a) H Z (S.leave q ev (.inl rfl) S.sub (.refl _) (fun _ _ => rfl) fun z => by cases z) (EStep.leave (T := tx X) q ev (fun _ z => by cases z) (fun _ z => by cases z) (.refl _) fun _ _ => rfl)
        ⟨a, rfl, r, zn, .inr ⟨i, d, q, ev⟩, fun ⟨j, d', h1, h2⟩ => ?_, fun hb => ?_, by simpa using ho⟩⟩
      · rcases set_get h1 with ⟨_, e⟩ | ⟨hj, e⟩
        · cases e
        · exact hj (S.inj i j d d' a q e ev h2)
      · exact S.sep a ⟨i, d, q, ev⟩ (hb.set_out fun _ z => by cases z)

/-! constants -/
theorem se_int {n : Int} {j : Nat} : SE X (.Constant (.int n) j pos) (cCst (.int n)) := ⟨fun W tk => peI pe_int (tE_of fun ρ σ H Z Q S p => Po.out (k := kE) (a := .val (.int n)) p S rfl)⟩
theorem se_bl {n : Bool} {j : Nat} : SE X (.Constant (.bool n) j pos) (cCst (.bl n)) := ⟨fun W tk => peI pe_bl (tE_of fun ρ σ H Z Q S p => Po.out (k := kE) (a := .val (.bl n)) p S rfl)⟩
theorem se_non {j : Nat} : SE X (.Constant .none j pos) (cCst .non) := ⟨fun W tk => peI pe_non (tE_of fun ρ σ H Z Q S p => Po.out (k := kE) (a := .val .non) p S rfl)⟩
theorem se_str {n : Str} {j : Nat} : SE X (.Constant (.str n) j pos) (cCst (.str n)) := ⟨fun W tk => peI pe_str (tE_of fun ρ σ H Z Q S p => Po.out (k := kE) (a := .val (.str n)) p S rfl)⟩
/-- a constant of the module -/
theorem se_glob {d : D} (hg : Gl X x) (hm : ∃ u v, X.mg x = some u ∧ RelV v u ∧ ∀ Z, Rep (tx X) Z d v) (hd : (x == ("__debug__" : Str)) = false := by decide) : SE X (.Name x pos) (cCst d) := by
  obtain ⟨u, v, hm, r, q⟩ := hm
  exact ⟨fun W tk => peI (pe_glob hg hm r hd) (tE_of fun ρ σ H Z Q S p => Po.out (k := kE) (a := .val d) p S (q Z))⟩

/-! operators -/
/-- a value rule serves f -/
def Fits1 (X : Cx) (r : V → Hp → VK → Prop) (f : D → Option Rv) : Prop := ∀ {ρ σ H Z dx x rv Q}, SOk (tx X) ρ σ H Z → RdOk (tx X) H Z x dx → f dx = some rv →
  (∀ v H' Z', SOk (tx X) ρ σ H' Z' → EStep ρ σ H Z ρ H' Z' → RvOk (tx X) ρ σ H ρ H' Z' v rv → Q v H') → r x H Q
def Fits2 (X : Cx) (r : R2) (f : D → D → Option Rv) : Prop := ∀ {ρ σ H Z dx dy x y rv Q}, SOk (tx X) ρ σ H Z → RdOk (tx X) H Z x dx → RdOk (tx X) H Z y dy → f dx dy = some rv →
  (∀ v H' Z', SOk (tx X) ρ σ H' Z' → EStep ρ σ H Z ρ H' Z' → RvOk (tx X) ρ σ H ρ H' Z' v rv → Q v H') → r x y H Q
theorem bin_ok {W : WX} {r : R2} {f : D → D → Option Rv} (hf : Fits2 X r f) : ∀ σ H Q, tK kE (tx X) W (cBin f ca cb) σ H Q → tOp r (tK kE (tx X) W ca) (tK kE (tx X) W cb) σ H Q := tE_of fun ρ σ H Z Q S p => by
  unfold cBin cR at p
  have p1 : Po kE (tx X) ρ σ H Z (bnd ca (fun rx => bnd (bnd cb fun r => ret r.d) fun y => ofO (f rx.d y)) ρ) W Q := by
    unfold bnd at p ⊢
    cases q : ca ρ with
    | ok rx ρ' => rw [q] at p; exact p
    | exc y ρ' => rw [q] at p; exact p
    | stuck => rw [q] at p; exact p
  refine ⟨ρ, Z, S, p1.bnd (k1 := kE) fun rx vx ρ1 H1 Z1 S1 E1 o1 p2 => ?_⟩
  have p3 : Po kE (tx X) ρ1 σ H1 Z1 (bnd cb (fun ry => ofO (f rx.d ry.d)) ρ1) W Q := by
    unfold bnd at p2 ⊢
    cases q : cb ρ1 with
    | ok ry ρ' => rw [q] at p2; exact p2
    | exc y ρ' => rw [q] at p2; exact p2
    | stuck => rw [q] at p2; exact p2
  refine ⟨ρ1, Z1, S1, p3.bnd (k1 := kE) fun ry vy ρ2 H2 Z2 S2 E2 o2 p4 => ?_⟩
  obtain ⟨rv, e, p5⟩ := p4.ofO
  exact hf S2 ((RvOk.read o1).mono E2.same E2.step.le) (RvOk.read o2) e fun v H' Z' S' E' o' => p5 v H' Z' S' E' o'
theorem un_ok {W : WX} {r : V → Hp → VK → Prop} {f : D → Option Rv} (hf : Fits1 X r f) : ∀ σ H Q, tK kE (tx X) W (cUn f ca) σ H Q → tUn r (tK kE (tx X) W ca) σ H Q := tE_of fun ρ σ H Z Q S p => by
  unfold cUn cR at p
  have p1 : Po kE (tx X) ρ σ H Z (bnd ca (fun rx => ofO (f rx.d)) ρ) W Q := by
    unfold bnd at p ⊢
    cases q : ca ρ with
    | ok rx ρ' => rw [q] at p; exact p
    | exc y ρ' => rw [q] at p; exact p
    | stuck => rw [q] at p; exact p
  refine ⟨ρ, Z, S, p1.bnd (k1 := kE) fun rx vx ρ1 H1 Z1 S1 E1 o1 p2 => ?_⟩
  obtain ⟨rv, e, p5⟩ := p2.ofO
  exact hf S1 (RvOk.read o1) e fun v H' Z' S' E' o' => p5 v H' Z' S' E' o'
theorem se_bin {op : Operator} {r : R2} {f : D → D → Option Rv} (ho : OpR X (binaryOp op) r) (hf : Fits2 X r f) (ha : SE X a ca) (hb : SE X b cb) : SE X (.BinOp a op b pos) (cBin f ca cb) :=
  ⟨fun W tk => peI (pe_op ho (ha.run W tk) (hb.run W tk)) (bin_ok hf)⟩
theorem se_un {op : UnaryOp} {r : V → Hp → VK → Prop} {f : D → Option Rv} (ho : UnR X (unaryOp op) r) (hf : Fits1 X r f) (ha : SE X a ca) : SE X (.UnaryOp op a pos) (cUn f ca) :=
  ⟨fun W tk => peI (pe_un ho (ha.run W tk)) (un_ok hf)⟩
theorem se_cmp {op : CmpOp} {r : R2} {f : D → D → Option Rv} (ho : OpR X (compareOp op) r) (hf : Fits2 X r f) (ha : SE X a ca) (hb : SE X b cb) (hm : behindInMarks op b = false := by rfl) : SE X (.Compare a [op] [b] pos) (cBin f ca cb) :=
  ⟨fun W tk => peI (pe_cmpR ho (ha.run W tk) (hb.run W tk) hm) (bin_ok hf)⟩
/-- two rules for one operator -/
theorem OpR.or {f : Value → Value → Sem Value} {r r' : R2} (h : OpR X f r) (h' : OpR X f r') : OpR X f (fun x y H Q => r x y H Q ∨ r' x y H Q) := fun pins s σ H x y v u Q I rx ry q => by
  rcases q with q | q
  · exact h pins s σ H x y v u Q I rx ry q
  · exact h' pins s σ H x y v u Q I rx ry q
/-- plain results -/
theorem Fits2.val {r : R2} {f : D → D → Option Rv} (h : ∀ {H Z dx dy x y d}, Le Z H → RdOk (tx X) H Z x dx → RdOk (tx X) H Z y dy → f dx dy = some (.val d) → ∀ Q : VK, (∀ v, Rep (tx X) Z d v → Q v H) → r x y H Q)
    (hv : ∀ {dx dy rv}, f dx dy = some rv → ∃ d, rv = .val d) : Fits2 X r f := fun {ρ σ H Z dx dy x y rv Q} S h1 h2 e k => by
  obtain ⟨d, rfl⟩ := hv e
  exact h S.sub h1 h2 e Q fun v q => k v H Z S (.refl _ _ _ _) q
theorem rd_int {T : Tx} {H Z : Hp} {x : V} {i : Int} (h : RdOk T H Z x (.int i)) : x = .int i := h.elim id fun ⟨_, _, z⟩ => z.elim
theorem rd_str {T : Tx} {H Z : Hp} {x : V} {i : Str} (h : RdOk T H Z x (.str i)) : x = .str i := h.elim id fun ⟨_, _, z⟩ => z.elim
theorem rd_bl {T : Tx} {H Z : Hp} {x : V} {i : Bool} (h : RdOk T H Z x (.bl i)) : x = .bl i := h.elim id fun ⟨_, _, z⟩ => z.elim
theorem rd_non {T : Tx} {H Z : Hp} {x : V} (h : RdOk T H Z x .non) : x = .non := h.elim id fun ⟨_, _, z⟩ => z.elim
theorem rd_lst {T : Tx} {H Z : Hp} {x : V} {ds : List D} (s : Le Z H) (h : RdOk T H Z x (.lst ds)) : ∃ a vs, x = .ref a ∧ Rd H a (.lst vs) ∧ Reps T Z ds vs := by
  rcases h with ⟨a, vs, e, q, r⟩ | ⟨a, e, vs, q, r⟩
  · exact ⟨a, vs, e, s.rd q, r⟩
  · exact ⟨a, vs, e, .inl q, r⟩
theorem rd_tup {T : Tx} {H Z : Hp} {x : V} {ds : List D} (s : Le Z H) (h : RdOk T H Z x (.tup ds)) : ∃ a vs, x = .ref a ∧ SqT T.K H a vs ∧ Reps T Z ds vs := by
  rcases h with ⟨a, vs, e, q, r⟩ | ⟨a, e, z⟩
  · exact ⟨a, vs, e, s.sqT q, r⟩
  · exact z.elim
end
end CI
end
section
set_option maxRecDepth 100000
/-! CIOps: each operator's value rule. -/
namespace CI
open PySem L2 PyProof.Rows
section
variable {X : Cx}
theorem opI2 {C : Int → Int → Prop} {g : Int → Int → V} {f : D → D → Option Rv} (hf : ∀ dx dy rv, f dx dy = some rv → ∃ i j d, dx = .int i ∧ dy = .int j ∧ C i j ∧ rv = .val d ∧ ∀ T Z, Rep T Z d (g i j)) : Fits2 X (rI C g) f := by
  intro ρ σ H Z dx dy x y rv Q S h1 h2 e k
  obtain ⟨i, j, d, rfl, rfl, c, rfl, q⟩ := hf _ _ _ e
  exact ⟨i, j, rd_int h1, rd_int h2, c, k _ _ _ S (.refl _ _ _ _) (q _ _)⟩
theorem opI20 {g : Int → Int → V} {f : D → D → Option Rv} (hf : ∀ dx dy rv, f dx dy = some rv → ∃ i j d, dx = .int i ∧ dy = .int j ∧ rv = .val d ∧ ∀ T Z, Rep T Z d (g i j)) : Fits2 X (rI0 g) f := by
  intro ρ σ H Z dx dy x y rv Q S h1 h2 e k
  obtain ⟨i, j, d, rfl, rfl, rfl, q⟩ := hf _ _ _ e
  exact ⟨i, j, rd_int h1, rd_int h2, k _ _ _ S (.refl _ _ _ _) (q _ _)⟩

/-! list + list, list * int over anything readable -/
theorem Inv.lstR {pins : List (Addr × Obj)} {σ : L2.St} {H : Hp} {s : Shared} {l : Addr} {xs : List V} (I : Inv X pins σ H s) (hH : Rd H l (.lst xs)) : xs.length ≤ sizeLine ∧ ∃ (its : List Value) (n : Nat), Vals xs its ∧ xs.length = its.length ∧ s.heap.get? l = some { cls := .type "list", data := .seq its.toArray n } := by
  obtain ⟨z, its, n, r, e⟩ := hH.ok I.hok
  exact ⟨z, its, n, r, r.length, e⟩
def rCatR : R2 := fun x y H Q => ∃ l b xs zs, x = .ref l ∧ y = .ref b ∧ Rd H l (.lst xs) ∧ Rd H b (.lst zs) ∧ xs.length + zs.length ≤ sizeLine ∧ ∀ p, H p = none → Q (.ref p) (upd H p (.lst (xs ++ zs)))
theorem op_catR : OpR X (binaryOp .Add) rCatR := by
  intro pins s σ H x y v u Q I rx ry h
  obtain ⟨l, b, xs, zs, rfl, rfl, hH, hB, hz, q⟩ := h
  cases rx
  cases ry
  obtain ⟨z, its, n, r, hl, e⟩ := Inv.lstR I hH
  obtain ⟨z2, its2, n2, r2, hl2, e2⟩ := Inv.lstR I hB
  refine PySem.P.add_list e e2 ?_ (by rw [List.size_toArray, List.size_toArray]; omega)
  have ea : its.toArray ++ its2.toArray = (its ++ its2).toArray := by simp
  rw [ea]
  exact ⟨.ref _, _, I.lnew (t' := s.toks) (r.append r2) (by rw [List.length_append]; omega), rfl, q _ I.fresh⟩
def rRepR : R2 := fun x y H Q => ∃ l k xs, x = .ref l ∧ y = .int k ∧ Rd H l (.lst xs) ∧ -(2 ^ 63) ≤ k ∧ k < 2 ^ 63 ∧ xs.length * k.toNat ≤ sizeLine ∧
  ∀ p, H p = none → Q (.ref p) (upd H p (.lst (List.replicate k.toNat xs).flatten))
theorem op_repR : OpR X (binaryOp .Mult) rRepR := by
  intro pins s σ H x y v u Q I rx ry h
  obtain ⟨l, k, xs, rfl, rfl, hH, h1, h2, hz, q⟩ := h
  cases rx
  obtain ⟨t, rfl⟩ := ry
  obtain ⟨z, its, n, r, hl, e⟩ := Inv.lstR I hH
  have hlen : its.toArray.size * k.toNat ≤ sizeLine := by rw [List.size_toArray, ← hl]; exact hz
  have hcap : ¬ its.toArray.size * k.toNat > (2 ^ 63 - 1) / 8 := by
    have : (sizeLine : Nat) ≤ (2 ^ 63 - 1) / 8 := by decide
    omega
  have hfit : ¬ (!Builtin.List.listFitsIndex k) = true := by
    rw [fitsIndex_both h1 h2]
    exact Bool.false_ne_true
  have hlong : ¬ Builtin.List.listTooLong (its.toArray.size * k.toNat) = true := by
    rw [notLongL hlen]
    exact Bool.false_ne_true
  have hnew : List.foldl (fun x1 x2 => x1 ++ x2) #[] (List.replicate (if its.toArray.isEmpty = true then 0 else k.toNat) its.toArray) = (List.replicate k.toNat its).flatten.toArray := by
    have f0 : ∀ m : Nat, List.foldl (fun x1 x2 => x1 ++ x2) #[] (List.replicate m its.toArray) = (List.replicate m its).flatten.toArray := fun m => by
      have := foldl_rep its m []
      rw [List.nil_append] at this
      exact this
    rw [f0]
    cases its with
    | nil => simp
    | cons a r' => rw [if_neg (by simp)]
  refine wpAny_binaryOp_repeat_ref (T := "list") (U := "int") (by decide) ⟨_, e, rfl⟩ (fun s' => typeIs_int s' k t) noFill_list_mul F.fills_int_mul F.slot_int_rmul repeat_list F.slot_int_index.lookup
    (call_meets F.slot_int_rmul (typeIs_int s k t) F.entry_int_rmul (F.args_int_rmul_2 _ _) (int___rmul___int_list k t l its.toArray n)
      ⟨e, rfl, ⟨_, e, rfl⟩, call_meets F.slot_list_mul ⟨_, e, rfl⟩ F.entry_list_mul (F.args_list_mul_2 _ _) (AutoListH.list___mul___list_int_3 l its.toArray n k t hfit hcap hlong) ⟨e, ?_⟩⟩)
  rw [hnew]
  exact ⟨.ref _, _, I.lnew (t' := s.toks) (r.rep k.toNat) (by rw [PyProof.Rows.lm_len_rep_flat, Nat.mul_comm]; exact hz), rfl, q _ I.fresh⟩
/-- a tuple times one is itself -/
theorem tuple_mul1 (l : Addr) (items : Array Value) (n : Nat) (dd : Option Addr) (sl : Array (Option Value)) (u : Tok) :
    Meets (Builtin.«tuple.__mul__» ⟨[.ref l, .int 1 u], []⟩) (fun _ R s => s.heap.get? l = some { cls := .type "tuple", dict := dd, data := .seq items n, slots := sl } ∧ R (.ok (.ret (Value.ref l))) s) :=
  .of_wp fun prog w A R s h => by
    obtain ⟨hp, g, d, tk, os⟩ := s
    obtain ⟨hl, h⟩ := h
    have f1 := AutoSeq1.idx_int
    wp_walk using wpAny_loadPart' hl
    exact ⟨_, rfl, h⟩
def rRep1 (K : PySem.W.Frag) : R2 := fun x y H Q => ∃ l xs, x = .ref l ∧ y = .int 1 ∧ SqT K H l xs ∧ Q (.ref l) H
theorem op_rep1 : OpR X (binaryOp .Mult) (rRep1 X.K) := by
  intro pins s σ H x y v u Q I rx ry h
  obtain ⟨l, xs, rfl, rfl, hT, q⟩ := h
  cases rx
  obtain ⟨t, rfl⟩ := ry
  obtain ⟨its, r, ⟨⟨cls, dd, data, sl⟩, ho, hc, n, hd⟩, hs⟩ := I.tuple hT
  simp only at hc hd
  subst hc hd
  refine wpAny_binaryOp_repeat_ref (T := "tuple") (U := "int") (by decide) ⟨_, ho, rfl⟩ (fun s' => typeIs_int s' 1 t) noFill_tuple_mul F.fills_int_mul F.slot_int_rmul repeat_tuple F.slot_int_index.lookup
    (call_meets F.slot_int_rmul (typeIs_int s 1 t) F.entry_int_rmul (F.args_int_rmul_2 _ _) (int_rmul_tuple 1 t l its.toArray n dd sl)
      ⟨ho, rfl, ⟨_, ho, rfl⟩, call_meets F.slot_tuple_mul ⟨_, ho, rfl⟩ F.entry_tuple_mul (F.args_tuple_mul_2 _ _) (tuple_mul1 l its.toArray n dd sl t) ⟨ho, ?_⟩⟩)
  exact ⟨.ref l, _, I, rfl, q⟩

/-! + -/
def rAddA (K : PySem.W.Frag) : R2 := fun x y H Q => rI0 (fun i j => .int (i + j)) x y H Q ∨ (∃ i j, x = .str i ∧ y = .str j ∧ i.length + j.length ≤ sizeLine ∧ Q (.str (i ++ j)) H) ∨ rCatA K x y H Q ∨ rCatR x y H Q
theorem op_addA : OpR X (binaryOp .Add) (rAddA X.K) := OpR.or op_add (OpR.or op_add_str (OpR.or op_catA op_catR))
theorem reps_nil_iff {T : Tx} {Z : Hp} {ds : List D} {vs : List V} (r : Reps T Z ds vs) : vs = [] ↔ ds = [] := by
  have := r.length
  constructor
  · intro h; subst h; exact List.eq_nil_of_length_eq_zero (by simpa using this)
  · intro h; subst h; exact List.eq_nil_of_length_eq_zero (by simpa using this.symm)
theorem fits_add : Fits2 X (rAddA X.K) oAdd := by
  intro ρ σ H Z dx dy x y rv Q S h1 h2 e k
  unfold oAdd at e
  split at e
  · cases e
    exact .inl ⟨_, _, rd_int h1, rd_int h2, k _ _ _ S (.refl _ _ _ _) rfl⟩
  · split at e
    · rename_i hz
      cases e
      exact .inr (.inl ⟨_, _, rd_str h1, rd_str h2, of_decide_eq_true hz, k _ _ _ S (.refl _ _ _ _) rfl⟩)
    · cases e
  · split at e
    · rename_i xs ys hz
      cases e
      obtain ⟨a, vs, rfl, q1, r1⟩ := rd_tup S.sub h1
      obtain ⟨b, ws, rfl, q2, r2⟩ := rd_tup S.sub h2
      have hz : xs.length + ys.length ≤ sizeLine := of_decide_eq_true hz
      refine .inr (.inr (.inl ⟨a, b, vs, ws, rfl, rfl, q1, q2, by rw [← r1.length, ← r2.length]; exact hz, fun z => ?_, fun z1 z2 => ?_, fun z1 z2 p hp => ?_⟩))
      · have hx : xs = [] := (reps_nil_iff r1).mp z
        subst hx
        exact k _ _ _ S (.refl _ _ _ _) (show Rep (tx X) Z (.tup ([] ++ ys)) (.ref b) from by
          rw [List.nil_append]; exact h2.elim id fun ⟨_, _, z⟩ => z.elim)
      · have hy : ys = [] := (reps_nil_iff r2).mp z2
        subst hy
        exact k _ _ _ S (.refl _ _ _ _) (show Rep (tx X) Z (.tup (xs ++ [])) (.ref a) from by
          rw [List.append_nil]; exact h1.elim id fun ⟨_, _, z⟩ => z.elim)
      · exact k _ _ _ (S.newZ hp) (EStep.newZ S hp) (rv_tup S hp (r1.append r2))
    · cases e
  · split at e
    · rename_i xs ys hz
      cases e
      obtain ⟨a, vs, rfl, q1, r1⟩ := rd_lst S.sub h1
      obtain ⟨b, ws, rfl, q2, r2⟩ := rd_lst S.sub h2
      have hz : xs.length + ys.length ≤ sizeLine := of_decide_eq_true hz
      exact .inr (.inr (.inr ⟨a, b, vs, ws, rfl, rfl, q1, q2, by rw [← r1.length, ← r2.length]; exact hz, fun p hp => k _ _ _ (S.new hp) (EStep.new hp) (rv_lst S hp (r1.append r2))⟩))
    · cases e
  · cases e
theorem fits_sub : Fits2 X (rI0 fun i j => .int (i - j)) oSub := opI20 fun dx dy rv e => by
  unfold oSub at e
  split at e
  · cases e; exact ⟨_, _, _, rfl, rfl, rfl, fun _ _ => rfl⟩
  · cases e
/-! * -/
def CMulA (i j : Int) : Prop := CMul i j ∨ CMulW i j
theorem op_mulI : OpR X (binaryOp .Mult) (rI CMulA fun i j => .int (i * j)) := opI fun _ _ _ _ _ _ _ hc q => mul_int q (hc.elim (fun z => z.ok) fun z => z.ok)
theorem mulOk_ok {i j : Int} (h : mulOk i j = true) : CMulA i j := by
  unfold mulOk smallI at h
  simp only [Bool.or_eq_true, Bool.and_eq_true, decide_eq_true_eq] at h
  rcases h with (h | h) | h
  · exact .inl (.inl h)
  · exact .inl (.inr h)
  · exact .inr h
def rMulA (K : PySem.W.Frag) : R2 := fun x y H Q => rI CMulA (fun i j => .int (i * j)) x y H Q ∨ rRepR x y H Q ∨ rRep1 K x y H Q ∨ rRepT K x y H Q
theorem op_mulA : OpR X (binaryOp .Mult) (rMulA X.K) := OpR.or op_mulI (OpR.or op_repR (OpR.or op_rep1 op_repT))
theorem fits_mul : Fits2 X (rMulA X.K) oMul := by
  intro ρ σ H Z dx dy x y rv Q S h1 h2 e k
  unfold oMul at e
  split at e
  · split at e
    · rename_i hz
      cases e
      exact .inl ⟨_, _, rd_int h1, rd_int h2, mulOk_ok hz, k _ _ _ S (.refl _ _ _ _) rfl⟩
    · cases e
  · split at e
    · rename_i xs n hz
      cases e
      obtain ⟨a, vs, rfl, q1, r1⟩ := rd_lst S.sub h1
      simp only [Bool.and_eq_true, decide_eq_true_eq, sz] at hz
      exact .inr (.inl ⟨a, n, vs, rfl, rd_int h2, q1, hz.1.1, hz.1.2, by rw [← r1.length]; exact hz.2, fun p hp => k _ _ _ (S.new hp) (EStep.new hp) (rv_lst S hp (r1.replicate _))⟩)
    · cases e
  · split at e
    · rename_i xs n hz
      cases e
      obtain ⟨a, vs, rfl, q1, r1⟩ := rd_tup S.sub h1
      simp only [Bool.and_eq_true, decide_eq_true_eq, Bool.not_eq_true', List.isEmpty_eq_false_iff] at hz
      by_cases h1n : n = 1
      · subst h1n
        refine .inr (.inr (.inl ⟨a, vs, rfl, rd_int h2, q1, k _ _ _ S (.refl _ _ _ _) (show Rep (tx X) Z (.tup (List.replicate (Int.toNat 1) xs).flatten) (.ref a) from ?_)⟩))
        have e1 : (List.replicate (Int.toNat 1) xs).flatten = xs := by simp [List.replicate]
        rw [e1]
        exact h1.elim id fun ⟨_, _, z⟩ => z.elim
      · exact .inr (.inr (.inr ⟨a, n, vs, rfl, rd_int h2, q1, fun z => hz.1.2 ((reps_nil_iff r1).mp z), by omega, hz.1.1.2, by rw [← r1.length]; exact hz.2, fun p hp => k _ _ _ (S.newZ hp) (EStep.newZ S hp) (rv_tup S hp (r1.replicate _))⟩))
    · cases e
  · cases e
/-! //, %, **, shifts, bits -/
def CDivA (i j : Int) : Prop := CDivN i j ∨ CDivW i j
theorem op_fdivA : OpR X (binaryOp .FloorDiv) (rI CDivA fun i j => .int (i.fdiv j)) := opI fun _ _ _ _ _ _ _ hc q =>
  hc.elim (fun h => floordiv_int h.1 q (.inl (PyProof.noPylong_small h.2))) fun h => floordiv_int (by have := h.1; omega) q (.inl (PyProof.noPylong_of_log2 h.2))
theorem fits_fdiv : Fits2 X (rI CDivA fun i j => .int (i.fdiv j)) oFdiv := opI2 fun dx dy rv e => by
  unfold oFdiv at e
  split at e
  · split at e
    · rename_i hz
      cases e
      simp only [divOk, Bool.or_eq_true, Bool.and_eq_true, decide_eq_true_eq] at hz
      exact ⟨_, _, _, rfl, rfl, hz, rfl, fun _ _ => rfl⟩
    · cases e
  · cases e
theorem fits_mod : Fits2 X (rI (fun _ j => j ≠ 0) fun i j => .int (i.fmod j)) oMod := opI2 fun dx dy rv e => by
  unfold oMod at e
  split at e
  · split at e
    · rename_i hz
      cases e
      exact ⟨_, _, _, rfl, rfl, hz, rfl, fun _ _ => rfl⟩
    · cases e
  · cases e
theorem powOk_ok {i j : Int} (h : powOk i j = true) : CPow i j := by
  simp only [powOk, Bool.and_eq_true, decide_eq_true_eq] at h
  exact ⟨h.1.1, h.1.2, h.2⟩
theorem fits_pow : Fits2 X (rI CPow fun i j => .int (i ^ j.toNat)) oPow := opI2 fun dx dy rv e => by
  unfold oPow at e
  split at e
  · split at e
    · rename_i hz
      cases e
      exact ⟨_, _, _, rfl, rfl, powOk_ok hz, rfl, fun _ _ => rfl⟩
    · cases e
  · cases e
theorem fits_shl : Fits2 X (rI CPow fun i j => .int (i * 2 ^ j.toNat)) oShl := opI2 fun dx dy rv e => by
  unfold oShl at e
  split at e
  · split at e
    · rename_i hz
      cases e
      exact ⟨_, _, _, rfl, rfl, powOk_ok hz, rfl, fun _ _ => rfl⟩
    · cases e
  · cases e
theorem fits_shr : Fits2 X (rI (fun _ j => 0 ≤ j) fun i j => .int (i / 2 ^ j.toNat)) oShr := opI2 fun dx dy rv e => by
  unfold oShr at e
  split at e
  · split at e
    · rename_i hz
      cases e
      exact ⟨_, _, _, rfl, rfl, hz, rfl, fun _ _ => rfl⟩
    · cases e
  · cases e
theorem fits_and : Fits2 X (rI0 fun i j => .int (Builtin.bitAnd i j)) oAnd := opI20 fun dx dy rv e => by
  unfold oAnd at e
  split at e
  · cases e; exact ⟨_, _, _, rfl, rfl, rfl, fun _ _ => rfl⟩
  · cases e
theorem fits_or : Fits2 X (rI0 fun i j => .int (Builtin.bitOr i j)) oOr := opI20 fun dx dy rv e => by
  unfold oOr at e
  split at e
  · cases e; exact ⟨_, _, _, rfl, rfl, rfl, fun _ _ => rfl⟩
  · cases e
theorem fits_xor : Fits2 X (rI0 fun i j => .int (Builtin.bitXor i j)) oXor := opI20 fun dx dy rv e => by
  unfold oXor at e
  split at e
  · cases e; exact ⟨_, _, _, rfl, rfl, rfl, fun _ _ => rfl⟩
  · cases e
theorem fits_neg : Fits1 X (rU fun i => .int (-i)) oNeg := by
  intro ρ σ H Z dx x rv Q S h1 e k
  unfold oNeg at e
  split at e
  · cases e
    exact ⟨_, rd_int h1, k _ _ _ S (.refl _ _ _ _) rfl⟩
  · cases e
/-! comparisons -/
theorem fits_cmpI {p : Int → Int → Bool} : Fits2 X (rI0 fun i j => .bl (p i j)) (cmpI p) := opI20 fun dx dy rv e => by
  unfold cmpI at e
  split at e
  · cases e; exact ⟨_, _, _, rfl, rfl, rfl, fun _ _ => rfl⟩
  · cases e
mutual
theorem dp_of {T : Tx} {H Z : Hp} (s : Le Z H) : ∀ {d : D} {v : V} {e : PyData}, Rep T Z d v → pyOf d = some e → Dp T.K H v e
  | .non, _, _, r, h => by cases h; rw [show _ = V.non from r]; exact .non
  | .bl b, _, _, r, h => by cases h; rw [show _ = V.bl b from r]; exact .bl b
  | .int i, _, _, r, h => by cases h; rw [show _ = V.int i from r]; exact .int i
  | .str x, _, _, r, h => by cases h; rw [show _ = V.str x from r]; exact .str x
  | .tup ds, _, _, ⟨a, vs, e, q, r⟩, h => by
    unfold pyOf at h
    cases hp : pyAll ds with
    | none => rw [hp] at h; cases h
    | some es => rw [hp] at h; cases h; subst e; exact .tup (s.sqT q) (dpAll_of s r hp)
  | .lst ds, _, _, ⟨a, vs, e, q, r⟩, h => by
    unfold pyOf at h
    cases hp : pyAll ds with
    | none => rw [hp] at h; cases h
    | some es => rw [hp] at h; cases h; subst e; exact .lst (.inl (s.rd q)) (dpAll_of s r hp)
  | .dic _, _, _, _, h => by cases h
  | .obj _ _, _, _, _, h => by cases h
  | .glo _, _, _, _, h => by cases h
theorem dpAll_of {T : Tx} {H Z : Hp} (s : Le Z H) : ∀ {ds : List D} {vs : List V} {es : List PyData}, Reps T Z ds vs → pyAll ds = some es → DpAll T.K H vs es
  | [], _, _, r, h => by cases h; rw [show _ = ([] : List V) from r]; exact .nil
  | d :: ds, _, _, ⟨v, r, e, q, t⟩, h => by
    unfold pyAll at h
    cases h1 : pyOf d with
    | none => rw [h1] at h; cases h
    | some x =>
      cases h2 : pyAll ds with
      | none => rw [h1, h2] at h; cases h
      | some xs => rw [h1, h2] at h; cases h; subst e; exact .cons (dp_of s q h1) (dpAll_of s t h2)
end
theorem dp_rd {T : Tx} {H Z : Hp} {d : D} {v : V} {e : PyData} (s : Le Z H) (h : RdOk T H Z v d) (hp : pyOf d = some e) : Dp T.K H v e := by
  rcases h with h | ⟨a, rfl, h⟩
  · exact dp_of s h hp
  · cases d with
    | lst ds =>
      obtain ⟨vs, q, r⟩ := h
      unfold pyOf at hp
      cases h2 : pyAll ds with
      | none => rw [h2] at hp; cases hp
      | some es => rw [h2] at hp; cases hp; exact .lst (.of q) (dpAll_of s r h2)
    | dic _ => cases hp
    | obj _ _ => cases hp
    | _ => exact h.elim
theorem eqD_ok {a b : D} {k : Bool} (h : eqD a b = some k) : ∃ d e, pyOf a = some d ∧ pyOf b = some e ∧ SeqAt.shaped d = true ∧ SeqAt.shaped e = true ∧ k = PyData.eqv d e := by
  unfold eqD at h
  split at h
  · rename_i d e h1 h2
    split at h
    · rename_i hs
      rw [Bool.and_eq_true] at hs
      cases h
      exact ⟨d, e, h1, h2, hs.1, hs.2, rfl⟩
    · cases h
  · cases h
theorem fits_eq : Fits2 X (rEqD X.K) oEq := by
  intro ρ σ H Z dx dy x y rv Q S h1 h2 e k
  unfold oEq at e
  cases hq : eqD dx dy with
  | none => rw [hq] at e; cases e
  | some b =>
    rw [hq] at e; cases e
    obtain ⟨d, e, p1, p2, s1, s2, rfl⟩ := eqD_ok hq
    exact ⟨d, e, dp_rd (T := tx X) S.sub h1 p1, dp_rd (T := tx X) S.sub h2 p2, s1, s2, k _ _ _ S (.refl _ _ _ _) rfl⟩
theorem fits_ne : Fits2 X (rNeD X.K) oNe := by
  intro ρ σ H Z dx dy x y rv Q S h1 h2 e k
  unfold oNe at e
  cases hq : eqD dx dy with
  | none => rw [hq] at e; cases e
  | some b =>
    rw [hq] at e; cases e
    obtain ⟨d, e, p1, p2, s1, s2, rfl⟩ := eqD_ok hq
    exact ⟨d, e, dp_rd (T := tx X) S.sub h1 p1, dp_rd (T := tx X) S.sub h2 p2, s1, s2, k _ _ _ S (.refl _ _ _ _) rfl⟩
theorem inD_ok {a b : D} {k : Bool} (h : inD a b = some k) : ∃ d ds, pyOf a = some d ∧ pyOf b = some (.list ds) ∧ SeqAt.shaped d = true ∧ SeqAt.shaped (.list ds) = true ∧ k = ds.any fun z => PyData.eqv z d := by
  unfold inD at h
  split at h
  · rename_i d e h1 h2
    split at h
    · rename_i hs
      rw [Bool.and_eq_true] at hs
      cases h
      exact ⟨d, e, h1, h2, hs.1, hs.2, rfl⟩
    · cases h
  · cases h
theorem fits_inL : Fits2 X (rInD X.K) oInL := by
  intro ρ σ H Z dx dy x y rv Q S h1 h2 e k
  unfold oInL at e
  cases hq : inD dx dy with
  | none => rw [hq] at e; cases e
  | some b =>
    rw [hq] at e; cases e
    obtain ⟨d, e, p1, p2, s1, s2, rfl⟩ := inD_ok hq
    exact ⟨d, e, dp_rd (T := tx X) S.sub h1 p1, dp_rd (T := tx X) S.sub h2 p2, s1, s2, k _ _ _ S (.refl _ _ _ _) rfl⟩
theorem fits_notInL : Fits2 X (rNotInD X.K) oNotInL := by
  intro ρ σ H Z dx dy x y rv Q S h1 h2 e k
  unfold oNotInL at e
  cases hq : inD dx dy with
  | none => rw [hq] at e; cases e
  | some b =>
    rw [hq] at e; cases e
    obtain ⟨d, e, p1, p2, s1, s2, rfl⟩ := inD_ok hq
    exact ⟨d, e, dp_rd (T := tx X) S.sub h1 p1, dp_rd (T := tx X) S.sub h2 p2, s1, s2, k _ _ _ S (.refl _ _ _ _) rfl⟩
theorem rd_isNon {T : Tx} {H Z : Hp} {x : V} {d : D} (h : RdOk T H Z x d) : decide (x = .non) = isNon d := by
  cases d with
  | non => rw [rd_non h]; rfl
  | bl b => rw [rd_bl h]; rfl
  | int b => rw [rd_int h]; rfl
  | str b => rw [rd_str h]; rfl
  | tup ds => rcases h with ⟨a, _, rfl, _⟩ | ⟨a, rfl, z⟩ <;> rfl
  | lst ds => rcases h with ⟨a, _, rfl, _⟩ | ⟨a, rfl, z⟩ <;> rfl
  | dic ds => rcases h with ⟨a, rfl, _⟩ | ⟨a, rfl, z⟩ <;> rfl
  | obj c ds => rcases h with ⟨a, _, _, _, rfl, _⟩ | ⟨a, rfl, z⟩ <;> rfl
  | glo c => rcases h with ⟨a, rfl, _⟩ | ⟨a, rfl, z⟩ <;> rfl
theorem isNon_eq {d : D} (h : isNon d = true) : d = .non := by cases d <;> first | rfl | cases h
theorem fits_isN : Fits2 X (fun x y H Q => y = .non ∧ Q (.bl (decide (x = .non))) H) oIsN := by
  intro ρ σ H Z dx dy x y rv Q S h1 h2 e k
  unfold oIsN at e
  split at e
  · rename_i hn
    cases e
    have := isNon_eq hn
    subst this
    exact ⟨rd_non h2, by rw [rd_isNon h1]; exact k _ _ _ S (.refl _ _ _ _) rfl⟩
  · cases e
theorem fits_notN : Fits2 X (fun x y H Q => y = .non ∧ Q (.bl (!decide (x = .non))) H) oNotN := by
  intro ρ σ H Z dx dy x y rv Q S h1 h2 e k
  unfold oNotN at e
  split at e
  · rename_i hn
    cases e
    have := isNon_eq hn
    subst this
    exact ⟨rd_non h2, by rw [rd_isNon h1]; exact k _ _ _ S (.refl _ _ _ _) rfl⟩
  · cases e
end
end CI
end
section
set_option maxRecDepth 100000
/-! CITst: tests, places, arguments, displays. -/
namespace CI
open PySem L2 PyProof.Rows
section
variable {X : Cx} {e a b c : Expr} {ca cb cc : Mn Rv} {ta tb : Mn Bool} {pos : Pos} {W : WX}
theorem rd_len_line {T : Tx} {H Z : Hp} {x : V} {ds : List D} : True := trivial
theorem truD_ok {H Z : Hp} {x : V} {d : D} {k : Bool} (s : Le Z H) (h : RdOk (tx X) H Z x d) (e : truD d = some k) : TruV X.K x H k := by
  cases d with
  | non => cases e; rw [rd_non h]; rfl
  | bl b => cases e; rw [rd_bl h]; rfl
  | int i => cases e; rw [rd_int h]; rfl
  | str y =>
    simp only [truD] at e
    split at e
    · rename_i hz; cases e; rw [rd_str h]; exact ⟨of_decide_eq_true hz, rfl⟩
    · cases e
  | tup ds =>
    cases e
    obtain ⟨a, vs, rfl, q, r⟩ := rd_tup s h
    refine .inr (.inl ⟨vs, q, ?_⟩)
    have := r.length
    cases ds <;> cases vs <;> first | rfl | (simp at this)
  | lst ds =>
    cases e
    obtain ⟨a, vs, rfl, q, r⟩ := rd_lst s h
    refine .inl ⟨vs, .inl q, ?_⟩
    have := r.length
    cases ds <;> cases vs <;> first | rfl | (simp at this)
  | dic kvs =>
    cases e
    have key : ∀ {es : List (Key × V)}, RepK (tx X) Z kvs es → (!kvs.isEmpty) = !es.isEmpty := fun {es} r => by
      cases kvs with
      | nil => rw [show es = [] from r]; rfl
      | cons p ps => obtain ⟨q, v, r', e, _⟩ := r; rw [e]; rfl
    rcases h with ⟨a, rfl, es, q, r⟩ | ⟨a, rfl, es, q, r⟩
    · exact .inr (.inr ⟨es, s _ _ q, key r⟩)
    · exact .inr (.inr ⟨es, q, key r⟩)
  | obj _ _ => cases e
  | glo _ => cases e
theorem st_tr (ha : SE X a ca) (he : ∀ whole, isTrue a X.env whole = (do let v ← whole; standAt a.pos; holding [v] (truthy v)) := by intro _; rfl) : STt X a (cTr ca) :=
  ⟨fun W tk => ptI (pt_truth (ha.run W tk) he) (tE_of fun ρ σ H Z Q S p => ⟨ρ, Z, S, p.bnd (k1 := kE) fun r v ρ1 H1 Z1 S1 E1 o1 p1 => by
    obtain ⟨k, e, p2⟩ := p1.ofO
    exact ⟨k, truD_ok S1.sub (RvOk.read o1) e, Po.out (k := kB) p2 S1 rfl⟩⟩)⟩
/-- a chain of and, or -/
structure SW (X : Cx) (e : Expr) (c : Mn Bool) : Prop where
  run : ∀ W, Takes X W → PW X e (tK kB (tx X) W c)
theorem st_w (h : SW X e ta) : STt X e ta := ⟨fun W tk => (h.run W tk).pt⟩
theorem pwI {t u : TT} (h : PW X e t) (k : ∀ σ H Q, u σ H Q → t σ H Q) : PW X e u := ⟨fun wh pins s σ H Q I q => h.run wh pins s σ H Q I (k σ H Q q)⟩
theorem st_not (ha : STt X a ta) : STt X (.UnaryOp .Not a pos) (cNot ta) :=
  ⟨fun W tk => ptI (pt_not (ha.run W tk)) (tE_of fun ρ σ H Z Q S p => ⟨ρ, Z, S, p.bnd (k1 := kB) fun r v ρ1 H1 Z1 S1 E1 o1 p1 => by
    cases o1
    exact Po.out (k := kB) p1 S1 rfl⟩)⟩
theorem sw_and1 (ha : STt X a ta) : SW X (.BoolOp .And [a] pos) ta := ⟨fun W tk => pw_and1 (ha.run W tk)⟩
theorem sw_or1 (ha : STt X a ta) : SW X (.BoolOp .Or [a] pos) ta := ⟨fun W tk => pw_or1 (ha.run W tk)⟩
theorem sw_and {rest : List Expr} (ha : STt X a ta) (hb : SW X (.BoolOp .And (b :: rest) pos) tb) : SW X (.BoolOp .And (a :: b :: rest) pos) (cAnd ta tb) :=
  ⟨fun W tk => pwI (pw_and (ha.run W tk) (hb.run W tk)) (tE_of fun ρ σ H Z Q S p => ⟨ρ, Z, S, p.bnd (k1 := kB) fun r v ρ1 H1 Z1 S1 E1 o1 p1 => by
    cases o1
    cases r with
    | true => exact ⟨ρ1, Z1, S1, p1⟩
    | false => exact Po.out (k := kB) p1 S1 rfl⟩)⟩
theorem sw_or {rest : List Expr} (ha : STt X a ta) (hb : SW X (.BoolOp .Or (b :: rest) pos) tb) : SW X (.BoolOp .Or (a :: b :: rest) pos) (cOr ta tb) :=
  ⟨fun W tk => pwI (pw_or (ha.run W tk) (hb.run W tk)) (tE_of fun ρ σ H Z Q S p => ⟨ρ, Z, S, p.bnd (k1 := kB) fun r v ρ1 H1 Z1 S1 E1 o1 p1 => by
    cases o1
    cases r with
    | true => exact Po.out (k := kB) p1 S1 rfl
    | false => exact ⟨ρ1, Z1, S1, p1⟩⟩)⟩
theorem blD_ok {T : Tx} {H Z : Hp} {x : V} {d : D} {k : Bool} (h : RdOk T H Z x d) (e : blD d = some k) : x = .bl k := by
  cases d with
  | bl b => cases e; exact rd_bl h
  | _ => cases e
theorem se_notV (ha : SE X a ca) : SE X (.UnaryOp .Not a pos) (cNotV ca) :=
  ⟨fun W tk => peI (pe_not (ha.run W tk)) (tE_of fun ρ σ H Z Q S p => ⟨ρ, Z, S, p.bnd (k1 := kE) fun r v ρ1 H1 Z1 S1 E1 o1 p1 => by
    cases hb : blD r.d with
    | none => rw [hb] at p1; exact p1.elim
    | some k =>
      rw [hb] at p1
      exact ⟨k, blD_ok (RvOk.read o1) hb, Po.out (k := kE) (a := .val (.bl (!k))) p1 S1 rfl⟩⟩)⟩
theorem se_one {op : BoolOp} (ha : SE X a ca) : SE X (.BoolOp op [a] pos) ca := ⟨fun W tk => pe_one (ha.run W tk)⟩
theorem se_andV {rest : List Expr} (ha : SE X a ca) (hb : SE X (.BoolOp .And (b :: rest) pos) cb) : SE X (.BoolOp .And (a :: b :: rest) pos) (cAndV ca cb) :=
  ⟨fun W tk => peI (pe_and (ha.run W tk) (hb.run W tk)) (tE_of fun ρ σ H Z Q S p => ⟨ρ, Z, S, p.bnd (k1 := kE) fun r v ρ1 H1 Z1 S1 E1 o1 p1 => by
    cases hb : blD r.d with
    | none => rw [hb] at p1; exact p1.elim
    | some k =>
      rw [hb] at p1
      refine ⟨k, blD_ok (RvOk.read o1) hb, ?_⟩
      cases k with
      | true => exact ⟨ρ1, Z1, S1, p1⟩
      | false => exact Po.out (k := kE) (a := .val (.bl false)) p1 S1 rfl⟩)⟩
theorem se_orV {rest : List Expr} (ha : SE X a ca) (hb : SE X (.BoolOp .Or (b :: rest) pos) cb) : SE X (.BoolOp .Or (a :: b :: rest) pos) (cOrV ca cb) :=
  ⟨fun W tk => peI (pe_or (ha.run W tk) (hb.run W tk)) (tE_of fun ρ σ H Z Q S p => ⟨ρ, Z, S, p.bnd (k1 := kE) fun r v ρ1 H1 Z1 S1 E1 o1 p1 => by
    cases hb : blD r.d with
    | none => rw [hb] at p1; exact p1.elim
    | some k =>
      rw [hb] at p1
      refine ⟨k, blD_ok (RvOk.read o1) hb, ?_⟩
      cases k with
      | true => exact Po.out (k := kE) (a := .val (.bl true)) p1 S1 rfl
      | false => exact ⟨ρ1, Z1, S1, p1⟩⟩)⟩
theorem se_if {t : Expr} (ht : STt X t ta) (ha : SE X a ca) (hb : SE X b cb) : SE X (.IfExp t a b pos) (cIf ta ca cb) :=
  ⟨fun W tk => peI (pe_ifExp (ht.run W tk) (ha.run W tk) (hb.run W tk)) (tE_of fun ρ σ H Z Q S p => ⟨ρ, Z, S, p.bnd (k1 := kB) fun r v ρ1 H1 Z1 S1 E1 o1 p1 => by
    cases o1
    cases r with
    | true => exact ⟨ρ1, Z1, S1, p1⟩
    | false => exact ⟨ρ1, Z1, S1, p1⟩⟩)⟩
theorem se_chain {op op' : CmpOp} {r r' : R2} {f g : D → D → Option Rv} (ho : OpR X (compareOp op) r) (ho' : OpR X (compareOp op') r') (hf : Fits2 X r f) (hg : Fits2 X r' g) (ha : SE X a ca) (hb : SE X b cb) (hc : SE X c cc)
    (hm : lastMarks [op, op'] [b, c] = false := by with_unfolding_all rfl) : SE X (.Compare a [op, op'] [b, c] pos) (cChain f g ca cb cc) :=
  ⟨fun W tk => peI (pe_chain ho ho' (ha.run W tk) (hb.run W tk) (hc.run W tk) hm) (tE_of fun ρ σ H Z Q S p => ⟨ρ, Z, S, p.bnd (k1 := kE) fun r1 v1 ρ1 H1 Z1 S1 E1 o1 p1 => ⟨ρ1, Z1, S1, p1.bnd (k1 := kE) fun r2 v2 ρ2 H2 Z2 S2 E2 o2 p2 => by
    cases hq : f r1.d r2.d with
    | none => rw [hq] at p2; exact p2.elim
    | some rv =>
      rw [hq] at p2
      cases hk : blR (some rv) with
      | none => rw [hk] at p2; exact p2.elim
      | some k =>
        rw [hk] at p2
        have erv : rv = .val (.bl k) := by
          unfold blR at hk
          split at hk
          · rename_i b hb; cases hk; exact Option.some.inj hb
          · cases hk
        subst erv
        refine hf S2 ((RvOk.read o1).mono E2.same E2.step.le) (RvOk.read o2) hq fun v H' Z' S' E' o' => ⟨k, o', ?_⟩
        have p3 := p2.later E'
        cases k with
        | true =>
          refine ⟨ρ2, Z', S', Po.bnd (k1 := kE) p3 fun r3 v3 ρ3 H3 Z3 S3 E3 o3 p4 => ?_⟩
          obtain ⟨rv, e, p5⟩ := p4.ofO
          exact hg S3 ((RvOk.read o2).mono (E'.same.trans E3.same) (E'.step.le.trans E3.step.le)) (RvOk.read o3) e fun v H' Z' S' E' o' => p5 v H' Z' S' E' o'
        | false => exact Po.out (k := kE) (a := .val (.bl false)) p3 S' rfl⟩⟩)⟩

/-! places -/
theorem atI_reps {T : Tx} {Z : Hp} {ds : List D} {vs : List V} (r : Reps T Z ds vs) {i : Int} {d : D} (h : atI ds i = some d) : ∃ v, atI vs i = some v ∧ Rep T Z d v := by
  unfold atI at h ⊢
  rw [← r.length]
  cases hx : ixN ds.length i with
  | none => rw [hx] at h; cases h
  | some j =>
    rw [hx] at h
    exact r.get (i := j) h
theorem fits_ix : Fits2 X (rIx X.K) ixD := by
  intro ρ σ H Z dx dy x y rv Q S h1 h2 e k
  unfold ixD at e
  split at e
  · rename_i xs i
    obtain ⟨a, vs, rfl, q, r⟩ := rd_lst S.sub h1
    cases hd : atI xs i with
    | none => rw [hd] at e; cases e
    | some d =>
      rw [hd] at e; cases e
      obtain ⟨v, hv, rv⟩ := atI_reps r hd
      exact .inl ⟨a, vs, i, v, rfl, rd_int h2, .inl q, hv, k _ _ _ S (.refl _ _ _ _) rv⟩
  · rename_i xs i
    obtain ⟨a, vs, rfl, q, r⟩ := rd_tup S.sub h1
    cases hd : atI xs i with
    | none => rw [hd] at e; cases e
    | some d =>
      rw [hd] at e; cases e
      obtain ⟨v, hv, rv⟩ := atI_reps r hd
      exact .inr (.inl ⟨a, vs, i, v, rfl, rd_int h2, q, hv, k _ _ _ S (.refl _ _ _ _) rv⟩)
  · split at e
    · rename_i z i hz
      cases hd : atI z.cps.toList i with
      | none => rw [hd] at e; cases e
      | some d =>
        rw [hd] at e; cases e
        exact .inr (.inr ⟨z, i, d, rd_str h1, rd_int h2, of_decide_eq_true hz, hd, k _ _ _ S (.refl _ _ _ _) rfl⟩)
    · cases e
  · cases e
theorem se_ix (ha : SE X a ca) (hb : SE X b cb) (hs : PlainIx b := by exact fun _ _ => rfl) : SE X (.Subscript a b pos) (cBin ixD ca cb) :=
  ⟨fun W tk => peI (pe_ix ix_seq (ha.run W tk) (hb.run W tk) hs) (bin_ok fits_ix)⟩
/-- a part of a slice -/
def kO : Kd (Option Int) (Option Int) := ⟨fun _ _ _ _ _ _ _ b c => b = c, fun _ h => h⟩
structure SO (X : Cx) (e : Option Expr) (c : Mn (Option Int)) : Prop where
  run : ∀ W, Takes X W → PO X e (tK kO (tx X) W c)
theorem poI {e : Option Expr} {t u : TO} (h : PO X e t) (k : ∀ σ H Q, u σ H Q → t σ H Q) : PO X e u := ⟨fun pins s σ H Q I q => h.run pins s σ H Q I (k σ H Q q)⟩
theorem so_none : SO X none cNoPart := ⟨fun W tk => poI po_none (tE_of fun ρ σ H Z Q S p => Po.out (k := kO) p S rfl)⟩
theorem so_some (h : SE X a ca) : SO X (some a) (cPart ca) := ⟨fun W tk => poI (po_some (h.run W tk)) (tE_of fun ρ σ H Z Q S p => ⟨ρ, Z, S, p.bnd (k1 := kE) fun r v ρ1 H1 Z1 S1 E1 o1 p1 => by
    obtain ⟨k, e, p2⟩ := p1.ofO
    cases hd : r.d with
    | int i =>
      rw [hd] at e; cases e
      have := RvOk.read o1
      rw [hd] at this
      exact ⟨i, rd_int this, Po.out (k := kO) p2 S1 rfl⟩
    | _ => rw [hd] at e; cases e⟩)⟩
def rSlX (K : PySem.W.Frag) : V → Option Int → Option Int → Hp → VK → Prop := fun x lo hi H Q => rSlL K x lo hi H Q ∨ rSlA K x lo hi H Q ∨ rSlS x lo hi H Q
theorem sl_any : SlR X (rSlX X.K) := SlR.or sl_list (SlR.or sl_tupA sl_str)
theorem cut_reps {T : Tx} {Z : Hp} {ds : List D} {vs : List V} (r : Reps T Z ds vs) (lo hi : Option Int) : Reps T Z (cutD ds lo hi) (cutV vs lo hi) := by
  unfold cutD cutV
  rw [r.length]
  exact (r.drop _).take _
theorem se_sl {lo hi : Option Expr} {cl ch : Mn (Option Int)} {p2 : Pos} (ha : SE X a ca) (hl : SO X lo cl) (hh : SO X hi ch) : SE X (.Subscript a (.Slice lo hi none p2) pos) (cSl ca cl ch) :=
  ⟨fun W tk => peI (pe_slice sl_any (ha.run W tk) (hl.run W tk) (hh.run W tk)) (tE_of fun ρ σ H Z Q S p => ⟨ρ, Z, S, p.bnd (k1 := kE) fun r v ρ1 H1 Z1 S1 E1 o1 p1 => ⟨ρ1, Z1, S1, p1.bnd (k1 := kO) fun l l' ρ2 H2 Z2 S2 E2 o2 p2 => by
    cases o2
    refine ⟨ρ2, Z2, S2, p2.bnd (k1 := kO) fun h h' ρ3 H3 Z3 S3 E3 o3 p3 => ?_⟩
    cases o3
    obtain ⟨rv, e, p4⟩ := p3.ofO
    have rd := ((RvOk.read o1).mono E2.same E2.step.le).mono E3.same E3.step.le
    cases hd : r.d with
    | lst xs =>
      rw [hd] at rd e
      cases e
      obtain ⟨a, vs, rfl, q, r⟩ := rd_lst S3.sub rd
      exact .inl ⟨a, vs, rfl, .inl q, fun p hp => p4 _ _ _ (S3.new hp) (EStep.new hp) (rv_lst S3 hp (cut_reps r _ _))⟩
    | tup xs =>
      rw [hd] at rd e
      cases e
      obtain ⟨a, vs, rfl, q, r⟩ := rd_tup S3.sub rd
      refine .inr (.inl ⟨a, vs, rfl, q, fun ⟨z1, z2⟩ => ?_, fun _ p hp => p4 _ _ _ (S3.newZ hp) (EStep.newZ S3 hp) (rv_tup S3 hp (cut_reps r _ _))⟩)
      have ec : cutD xs l h = xs := by
        unfold cutD
        rw [r.length, z1, z2, List.drop_zero, Nat.sub_zero, List.take_of_length_le (by rw [r.length]; exact Nat.le_refl _)]
      refine p4 _ _ _ S3 (.refl _ _ _ _) (show Rep (tx X) Z3 (.tup (cutD xs l h)) (.ref a) from ?_)
      rw [ec]
      exact rd.elim id fun ⟨_, _, z⟩ => z.elim
    | str z =>
      rw [hd] at rd e
      simp only [slD] at e
      split at e
      · rename_i hz
        cases e
        exact .inr (.inr ⟨z, rd_str rd, of_decide_eq_true hz, p4 _ _ _ S3 (.refl _ _ _ _) rfl⟩)
      · cases e
    | _ => rw [hd] at e; cases e⟩⟩)⟩

/-! arguments, kept values, displays -/
theorem sd_v (h : SE X a ca) : SD X a (cV ca) := by
  refine ⟨fun W tk => peI (h.run W tk) fun σ H Q ⟨ρ, Z, S, p⟩ => ⟨ρ, Z, S, ?_⟩⟩
  unfold cV bnd at p
  cases q : ca ρ with
  | stuck => rw [q] at p; exact p
  | exc x ρ' => rw [q] at p; exact p
  | ok r ρ' =>
    rw [q] at p
    cases r with
    | bor d => exact p.elim
    | val d => exact fun v H' Z' S' E' o' => p v H' Z' S' E' o'
    | own d =>
      intro v H' Z' S' E' ⟨a, e, r, z, o, n1, n2, n3⟩
      subst e
      obtain ⟨ob, ho⟩ := r.there
      refine p (.ref a) H' (frz Z' H' a) (S'.freeze z n1) ?_ ((r.mono rfl (frz_le z)).rep (frz_at.trans ho) ho)
      refine ⟨⟨E'.step.frame, E'.step.le.trans (frz_le z), fun b u hb => ?_, E'.step.own, E'.step.kept, E'.step.bor, E'.step.obj⟩, E'.same, E'.len, E'.ownE⟩
      by_cases hba : b = a
      · subst hba; exact .inr o
      · rw [frz_ne hba] at hb; exact E'.step.grow b u hb
structure SAr (X : Cx) (e : Expr) (c : Mn Rv) : Prop where
  run : ∀ W, Takes X W → PE X e (tK (α := Rv) (β := V) ⟨fun T _ _ _ _ H' Z' v r => ArgOk T H' Z' v r, fun _ h => h⟩ (tx X) W c)
theorem sar (h : SE X a ca) : SAr X a (cA ca) := by
  refine ⟨fun W tk => peI (h.run W tk) fun σ H Q ⟨ρ, Z, S, p⟩ => ⟨ρ, Z, S, ?_⟩⟩
  unfold cA bnd at p
  cases q : ca ρ with
  | stuck => rw [q] at p; exact p
  | exc x ρ' => rw [q] at p; exact p
  | ok r ρ' =>
    rw [q] at p
    cases r with
    | bor d => exact fun v H' Z' S' E' o' => p v H' Z' S' E' o'
    | val d => exact fun v H' Z' S' E' o' => p v H' Z' S' E' o'
    | own d =>
      intro v H' Z' S' E' ⟨a, e, r, z, o, n1, n2, n3⟩
      subst e
      obtain ⟨ob, ho⟩ := r.there
      refine p (.ref a) H' (frz Z' H' a) (S'.freeze z n1) ?_ (show Rep (tx X) _ d _ from (r.mono rfl (frz_le z)).rep (frz_at.trans ho) ho)
      refine ⟨⟨E'.step.frame, E'.step.le.trans (frz_le z), fun b u hb => ?_, E'.step.own, E'.step.kept, E'.step.bor, E'.step.obj⟩, E'.same, E'.len, E'.ownE⟩
      by_cases hba : b = a
      · subst hba; exact .inr o
      · rw [frz_ne hba] at hb; exact E'.step.grow b u hb
theorem sa_nil : SA X [] cNil := ⟨fun W tk => paI pa_nil (tE_of fun ρ σ H Z Q S p => Po.out (k := kA) (b := []) (a := []) p S trivial)⟩
theorem sa_cons {es : List Expr} {cs : Mn (List Rv)} (ha : SE X a ca) (hr : SA X es cs) (hs : starEach (a :: es) X.env = (false, eval a X.env) :: starEach es X.env := by rfl) : SA X (a :: es) (cCons (cA ca) cs) :=
  ⟨fun W tk => paI (pa_cons ((sar ha).run W tk) (hr.run W tk) hs) (tE_of fun ρ σ H Z Q S p => ⟨ρ, Z, S, Po.bnd (k1 := ⟨fun T _ _ _ _ H' Z' v r => ArgOk T H' Z' v r, fun _ h => h⟩) p fun r v ρ1 H1 Z1 S1 E1 o1 p1 =>
    ⟨ρ1, Z1, S1, p1.bnd (k1 := kA) fun rs vs ρ2 H2 Z2 S2 E2 o2 p2 => Po.out (k := kA) (b := v :: vs) (a := r :: rs) p2 S2 ⟨ArgOk.mono o1 E2.same E2.step.le, o2⟩⟩⟩)⟩
theorem sds_nil : SDs X [] cNil := ⟨fun W tk => paI pa_nil (tE_of fun ρ σ H Z Q S p => Po.out (k := kDs) (b := []) (a := []) p S rfl)⟩
theorem sds_cons {es : List Expr} {cs : Mn (List D)} (ha : SE X a ca) (hr : SDs X es cs) (hs : starEach (a :: es) X.env = (false, eval a X.env) :: starEach es X.env := by rfl) : SDs X (a :: es) (cCons (cV ca) cs) :=
  ⟨fun W tk => paI (pa_cons ((sd_v ha).run W tk) (hr.run W tk) hs) (tE_of fun ρ σ H Z Q S p => ⟨ρ, Z, S, Po.bnd (k1 := kD) p fun r v ρ1 H1 Z1 S1 E1 o1 p1 =>
    ⟨ρ1, Z1, S1, p1.bnd (k1 := kDs) fun rs vs ρ2 H2 Z2 S2 E2 o2 p2 => Po.out (k := kDs) (b := v :: vs) (a := r :: rs) p2 S2 ⟨v, vs, rfl, Rep.mono E2.step.le o1, o2⟩⟩⟩)⟩
theorem se_tup {es : List Expr} {cs : Mn (List D)} {x1 : Nat} (h : SDs X es cs) : SE X (.Tuple es x1 pos) (cTup cs) :=
  ⟨fun W tk => peI (pe_tup (h.run W tk)) (tE_of fun ρ σ H Z Q S p => ⟨ρ, Z, S, p.bnd (k1 := kDs) fun ds vs ρ1 H1 Z1 S1 E1 o1 p1 => by
    by_cases hz : sz ds.length = true
    · rw [if_pos hz] at p1
      exact ⟨by rw [← Reps.length o1]; exact of_decide_eq_true hz, fun p hp => p1 _ _ _ (S1.newZ hp) (EStep.newZ S1 hp) (rv_tup S1 hp o1)⟩
    · rw [if_neg hz] at p1; exact p1.elim⟩)⟩
theorem se_lst {es : List Expr} {cs : Mn (List D)} (h : SDs X es cs) : SE X (.List es pos) (cLst cs) :=
  ⟨fun W tk => peI (pe_lst (h.run W tk)) (tE_of fun ρ σ H Z Q S p => ⟨ρ, Z, S, p.bnd (k1 := kDs) fun ds vs ρ1 H1 Z1 S1 E1 o1 p1 => by
    by_cases hz : sz ds.length = true
    · rw [if_pos hz] at p1
      exact ⟨by rw [← Reps.length o1]; exact of_decide_eq_true hz, fun p hp => p1 _ _ _ (S1.new hp) (EStep.new hp) (rv_lst S1 hp o1)⟩
    · rw [if_neg hz] at p1; exact p1.elim⟩)⟩
end
end CI
end
section
set_option maxRecDepth 100000
/-! CIStm: statements. -/
namespace CI
open PySem L2 PyProof.Rows
/-- what a returned value is -/
def RetOk (T : Tx) (ρ : En) (σ : L2.St) (H H' Z' : Hp) (v : V) : Rv → Prop
  | .val d => Rep T Z' d v
  | .own d => ∃ a, v = .ref a ∧ OR T H' Z' a d ∧ Z' a = none ∧ (H a = none ∨ OwnA ρ σ a) ∧ isObj d = false
  | .bor _ => False
def PoS (T : Tx) (ρ : En) (σ : L2.St) (H Z : Hp) (o : Out Fl) (W : WX) (D : Ends) : Prop := match o with
  | .ok .nx ρ' => ∀ σ' H' Z', SOk T ρ' σ' H' Z' → Step ρ σ H Z ρ' σ' H' Z' → D.nx σ' H'
  | .ok .brk ρ' => ∀ σ' H' Z', SOk T ρ' σ' H' Z' → Step ρ σ H Z ρ' σ' H' Z' → D.bk σ' H'
  | .ok .cnt ρ' => ∀ σ' H' Z', SOk T ρ' σ' H' Z' → Step ρ σ H Z ρ' σ' H' Z' → D.ct σ' H'
  | .ok (.ret r) ρ' => ∀ v σ' H' Z', SOk T ρ' σ' H' Z' → Step ρ σ H Z ρ' σ' H' Z' → RetOk T ρ σ H H' Z' v r → D.rt v H'
  | .exc x ρ' => ∀ cls d σ' H' Z', SOk T ρ' σ' H' Z' → Step ρ σ H Z ρ' σ' H' Z' → XOk T Z' x cls d → W cls d σ' H'
  | .stuck => False
section
variable {T : Tx} {ρ ρ1 : En} {σ σ1 : L2.St} {H H1 Z Z1 : Hp} {W : WX} {D : Ends}
theorem RetOk.base {H' Z' : Hp} {v : V} {r : Rv} (s : Step ρ σ H Z ρ1 σ1 H1 Z1) (h : RetOk T ρ1 σ1 H1 H' Z' v r) : RetOk T ρ σ H H' Z' v r := by
  cases r with
  | val d => exact h
  | bor d => exact h
  | own d => obtain ⟨a, e, r, z, n, n3⟩ := h; exact ⟨a, e, r, z, own_base s n, n3⟩
theorem PoS.later {o : Out Fl} (h : PoS T ρ σ H Z o W D) (s : Step ρ σ H Z ρ1 σ1 H1 Z1) : PoS T ρ1 σ1 H1 Z1 o W D := by
  cases o with
  | stuck => exact h
  | exc x ρ' => exact fun cls d σ' H' Z' S E q => h cls d σ' H' Z' S (s.trans E) q
  | ok f ρ' =>
    cases f with
    | nx => exact fun σ' H' Z' S E => h σ' H' Z' S (s.trans E)
    | brk => exact fun σ' H' Z' S E => h σ' H' Z' S (s.trans E)
    | cnt => exact fun σ' H' Z' S E => h σ' H' Z' S (s.trans E)
    | ret r => exact fun v σ' H' Z' S E q => h v σ' H' Z' S (s.trans E) (q.base s)
/-- an expression ahead of a statement's work -/
theorem PoS.bnd {k : Kd α β} {m : Mn α} {f : α → Mn Fl} {R : β → Hp → Prop} (h : PoS T ρ σ H Z (bnd m f ρ) W D)
    (hk : ∀ r b ρ1 H1 Z1, SOk T ρ1 σ H1 Z1 → EStep ρ σ H Z ρ1 H1 Z1 → k.ok T ρ σ H ρ1 H1 Z1 b r → PoS T ρ1 σ H1 Z1 (f r ρ1) W D → R b H1) : Po k T ρ σ H Z (m ρ) W R := by
  unfold CI.bnd at h
  cases e : m ρ with
  | ok a ρ' => rw [e] at h; exact fun b H' Z' S E q => hk a b ρ' H' Z' S E q (h.later E.step)
  | exc x ρ' => rw [e] at h; exact fun cls d H' Z' S E q => h cls d σ H' Z' S E.step q
  | stuck => rw [e] at h; exact h
theorem PoS.ofO {o : Option α} {f : α → Mn Fl} (h : PoS T ρ σ H Z (CI.bnd (CI.ofO o) f ρ) W D) : ∃ a, o = some a ∧ PoS T ρ σ H Z (f a ρ) W D := by
  cases o with
  | none => exact h.elim
  | some a => exact ⟨a, rfl, h⟩
def tS (T : Tx) (W : WX) (c : Mn Fl) : TS := fun D σ H => ∃ ρ Z, SOk T ρ σ H Z ∧ PoS T ρ σ H Z (c ρ) W D
end
structure SS (X : Cx) (st : Stmt) (c : Mn Fl) : Prop where
  run : ∀ W, Takes X W → PS X st (tS (tx X) W c)
structure SSs (X : Cx) (sts : List Stmt) (c : Mn Fl) : Prop where
  run : ∀ W, Takes X W → PSs X sts (tS (tx X) W c)
theorem tS_of {t : TS} {T : Tx} {W : WX} {m : Mn Fl} (h : ∀ ρ σ H Z D, SOk T ρ σ H Z → PoS T ρ σ H Z (m ρ) W D → t D σ H) : ∀ D σ H, tS T W m D σ H → t D σ H := fun D σ H ⟨ρ, Z, S, p⟩ => h ρ σ H Z D S p

section
variable {X : Cx} {e a b : Expr} {c ca cb : Mn Rv} {ta : Mn Bool} {st : Stmt} {sts rest : List Stmt} {m u : Mn Fl} {pos : Pos} {i : Nat} {x : Str}
theorem ss_pass : SS X (.Pass pos) cPass := ⟨fun W tk => psI (t := tNext) ⟨fun pins s σ H D I h => wpAny_Pass ⟨σ, H, I, h⟩⟩ (tS_of fun ρ σ H Z D S p => p σ H Z S (.refl _ _ _ _))⟩
theorem ss_brk : SS X (.Break pos) cBrk := ⟨fun W tk => psI ps_break (tS_of fun ρ σ H Z D S p => p σ H Z S (.refl _ _ _ _))⟩
theorem ss_cnt : SS X (.Continue pos) cCnt := ⟨fun W tk => psI ps_continue (tS_of fun ρ σ H Z D S p => p σ H Z S (.refl _ _ _ _))⟩
theorem sss_nil : SSs X [] cPass := ⟨fun W tk => pssI pss_nil (tS_of fun ρ σ H Z D S p => p σ H Z S (.refl _ _ _ _))⟩
theorem sss_one (h : SS X st m) : SSs X [st] m := ⟨fun W tk => pss_one (h.run W tk)⟩
theorem sss_cons (h : SS X st m) (hr : SSs X rest u) : SSs X (st :: rest) (cSeq m u) :=
  ⟨fun W tk => pssI (pss_cons (h.run W tk) (hr.run W tk)) (tS_of fun ρ σ H Z D S p => ⟨ρ, Z, S, by
    unfold cSeq at p
    cases q : m ρ with
    | stuck => rw [q] at p; exact p
    | exc x ρ' => rw [q] at p; exact p
    | ok f ρ' =>
      rw [q] at p
      cases f with
      | nx => exact fun σ' H' Z' S' E' => ⟨ρ', Z', S', p.later E'⟩
      | brk => exact p
      | cnt => exact p
      | ret r => exact p⟩)⟩
theorem ss_expr (he : SE X e c) (hs : swapsWith e none pos.line X.env = pure false := by rfl) : SS X (.Expr e pos) (cExpr c) :=
  ⟨fun W tk => psI (ps_expr (he.run W tk) hs) (tS_of fun ρ σ H Z D S p => ⟨ρ, Z, S, p.bnd (k := kE) fun r v ρ1 H1 Z1 S1 E1 o1 p1 => p1 σ H1 Z1 S1 (.refl _ _ _ _)⟩)⟩
theorem ss_doc {z : Str} {j : Nat} {pos' : Pos} : SS X (.Expr (.Constant (.str z) j pos) pos') cPass := ⟨fun W tk => psI ps_doc (tS_of fun ρ σ H Z D S p => p σ H Z S (.refl _ _ _ _))⟩
theorem ss_ret (he : SE X e c) : SS X (.Return (some e) pos) (cRet c) :=
  ⟨fun W tk => psI (ps_ret (he.run W tk)) (tS_of fun ρ σ H Z D S p => ⟨ρ, Z, S, by
    unfold cRet CI.bnd at p
    cases q : c ρ with
    | stuck => rw [q] at p; exact p
    | exc x ρ' => rw [q] at p; exact fun cls d H' Z' S E q => p cls d σ H' Z' S E.step q
    | ok r ρ' =>
      rw [q] at p
      intro v H' Z' S' E' o'
      cases r with
      | val d => exact p v σ H' Z' S' E'.step o'
      | bor d => exact p.elim
      | own d =>
        obtain ⟨a, e, r, z, n, _, _, n3⟩ := o'
        exact p v σ H' Z' S' E'.step ⟨a, e, r, z, n, n3⟩⟩)⟩
theorem ss_retN : SS X (.Return none pos) cRetN := ⟨fun W tk => psI ps_retN (tS_of fun ρ σ H Z D S p => p .non σ H Z S (.refl _ _ _ _) rfl)⟩
theorem ss_if {t : Expr} {as bs : List Stmt} (ht : STt X t ta) (ha : SSs X as m) (hb : SSs X bs u) : SS X (.If t as bs pos) (cIfS ta m u) :=
  ⟨fun W tk => psI (ps_if (ht.run W tk) (ha.run W tk) (hb.run W tk)) (tS_of fun ρ σ H Z D S p => ⟨ρ, Z, S, p.bnd (k := kB) fun r v ρ1 H1 Z1 S1 E1 o1 p1 => by
    cases o1
    cases r with
    | true => exact ⟨ρ1, Z1, S1, p1⟩
    | false => exact ⟨ρ1, Z1, S1, p1⟩⟩)⟩

/-! stores to names -/
theorem set_getV {σ : L2.St} {s : Option V} {j : Nat} {s' : Option V} (h : (σ.set i s)[j]? = some s') : (i = j ∧ s' = s) ∨ (i ≠ j ∧ σ[j]? = some s') := by
  by_cases hj : i = j
  · subst hj
    by_cases hl : i < σ.length
    · rw [List.getElem?_set_self hl] at h; exact .inl ⟨rfl, (Option.some.inj h).symm⟩
    · rw [List.getElem?_eq_none (by simpa using hl)] at h; cases h
  · rw [List.getElem?_set_ne hj] at h; exact .inr ⟨hj, h⟩
theorem own_set {ρ : En} {σ : L2.St} {s : Sl} {v : V} {a : Addr} (h : OwnA (ρ.set i s) (σ.set i (some v)) a) : (∃ d, s = .own d ∧ v = .ref a) ∨ OwnA ρ σ a := by
  obtain ⟨j, d, h1, h2⟩ := h
  rcases set_get h1 with ⟨rfl, e⟩ | ⟨hj, e⟩
  · rcases set_getV h2 with ⟨_, e2⟩ | ⟨hj, _⟩
    · exact .inl ⟨d, e.symm, (Option.some.inj e2).symm⟩
    · exact absurd rfl hj
  · rw [List.getElem?_set_ne hj] at h2
    exact .inr ⟨j, d, e, h2⟩
theorem bor_set {ρ : En} {σ : L2.St} {s : Sl} {v : V} {a : Addr} (hs : ∀ d, s ≠ .bor d) (h : BorA (ρ.set i s) (σ.set i (some v)) a) : BorA ρ σ a := by
  obtain ⟨j, d, h1, h2⟩ := h
  rcases set_get h1 with ⟨rfl, e⟩ | ⟨hj, e⟩
  · exact absurd e.symm (hs d)
  · rw [List.getElem?_set_ne hj] at h2
    exact ⟨j, d, e, h2⟩
/-- a value is stored -/
theorem SOk.store {T : Tx} {ρ : En} {σ : L2.St} {H Z : Hp} (S : SOk T ρ σ H Z) {s : Sl} {v : V} (nb : ∀ d, s ≠ .bor d) (hs : SlOk T H Z (some (some v)) s) (hn : ∀ d a, s = .own d → v = .ref a → ¬ OwnA ρ σ a ∧ ¬ BorA ρ σ a) :
    SOk T (ρ.set i s) (σ.set i (some v)) H Z := by
  refine ⟨by rw [List.length_set, List.length_set]; exact S.len, S.sub, fun j s' hj => ?_, fun j k d1 d2 a h1 h2 h3 h4 => ?_, fun a ha hb => ?_⟩
  · rcases set_get hj with ⟨rfl, rfl⟩ | ⟨hne, hj'⟩
    · have hl : i < σ.length := by
        rcases Nat.lt_or_ge i ρ.length with h | h
        · rw [← S.len]; exact h
        · rw [List.getElem?_eq_none (by simpa using h)] at hj; cases hj
      rw [List.getElem?_set_self hl]; exact hs
    · rw [List.getElem?_set_ne hne]; exact S.slot j s' hj'
  · rcases set_get h1 with ⟨rfl, e1⟩ | ⟨n1, h1⟩
    · rcases set_get h2 with ⟨e, _⟩ | ⟨n2, h2⟩
      · exact e
      · rcases set_getV h3 with ⟨_, ev⟩ | ⟨z, _⟩
        · rw [List.getElem?_set_ne n2] at h4
          exact absurd ⟨k, d2, h2, h4⟩ (hn d1 a e1.symm (Option.some.inj ev).symm).1
        · exact absurd rfl z
    · rcases set_get h2 with ⟨rfl, e2⟩ | ⟨n2, h2⟩
      · rcases set_getV h4 with ⟨_, ev⟩ | ⟨z, _⟩
        · rw [List.getElem?_set_ne n1] at h3
          exact absurd ⟨j, d1, h1, h3⟩ (hn d2 a e2.symm (Option.some.inj ev).symm).1
        · exact absurd rfl z
      · rw [List.getElem?_set_ne n1] at h3
        rw [List.getElem?_set_ne n2] at h4
        exact S.inj j k d1 d2 a h1 h2 h3 h4
  · have hb' := bor_set nb hb
    rcases own_set ha with ⟨d, e, ev⟩ | ha'
    · exact (hn d a e ev).2 hb'
    · exact S.sep a ha' hb'
theorem Step.store {T : Tx} {ρ : En} {σ : L2.St} {H Z : Hp} {s : Sl} {v : V} (nb : ∀ d, s ≠ .bor d) (hn : ∀ d, s ≠ .own d) : Step ρ σ H Z (ρ.set i s) (σ.set i (some v)) H Z :=
  ⟨fun _ _ h _ => h, .refl _, fun _ _ h => .inl h, fun a h => (own_set h).elim (fun ⟨d, e, _⟩ => absurd e (hn d)) .inl, fun _ h => h, fun j d h => by
    rcases set_get h with ⟨_, e⟩ | ⟨hj, e⟩
    · exact absurd e.symm (nb d)
    · exact ⟨e, by rw [List.getElem?_set_ne hj]⟩, fun j d h o => by
    rcases set_get h with ⟨_, e⟩ | ⟨hj, e⟩
    · exact absurd e.symm (hn d)
    · exact ⟨⟨d, e, o⟩, by rw [List.getElem?_set_ne hj]⟩⟩
theorem set_ok {W : WX} {hN : X.N.Nodup} : ∀ D σ H, tS (tx X) W (cSet i c) D σ H → tAsg (tK kE (tx X) W c) (gName i) D σ H := tS_of fun ρ σ H Z D S p => by
  refine ⟨ρ, Z, S, ?_⟩
  unfold cSet CI.bnd at p
  cases q : c ρ with
  | stuck => rw [q] at p; exact p
  | exc x ρ' => rw [q] at p; exact fun cls d H' Z' S E q => p cls d σ H' Z' S E.step q
  | ok r ρ' =>
    rw [q] at p
    intro v H' Z' S' E' o'
    cases r with
    | val d => exact p _ _ _ (S'.store (fun _ z => by cases z) ⟨v, rfl, o'⟩ fun _ _ z => by cases z) (E'.step.trans (.store (T := tx X) (fun _ z => by cases z) fun _ z => by cases z))
    | bor d => exact p.elim
    | own d =>
      obtain ⟨a, e, r, z, n, n1, n2, n3⟩ := o'
      subst e
      refine p _ _ _ (S'.store (fun _ z => by cases z) ⟨a, rfl, r, z⟩ fun d' a' e e' => by cases e; cases e'; exact ⟨n1, n2⟩)
        ⟨E'.step.frame, E'.step.le, E'.step.grow, fun b h => ?_, E'.step.kept, fun j d' h => ?_, fun j d' h ob => ?_⟩
      · rcases own_set h with ⟨_, _, ev⟩ | h
        · cases ev; exact n.elim .inr .inl
        · exact E'.step.own b h
      · rcases set_get h with ⟨_, e⟩ | ⟨hj, e⟩
        · cases e
        · rw [List.getElem?_set_ne hj]; exact E'.step.bor j d' e
      · rcases set_get h with ⟨_, e⟩ | ⟨hj, e⟩
        · cases e; rw [n3] at ob; cases ob
        · rw [List.getElem?_set_ne hj]; exact E'.step.obj j d' e ob
theorem ss_set {pos' : Pos} (hN : X.N.Nodup) (hi : X.N[i]? = some x) (hx : Loc X.env.scope x) (he : SE X e c) (hs : swapsWith e (some (.Name x pos')) pos.line X.env = pure false := by rfl) (hf : X.fn x = true ∨ X.env.scope.names.lookup x = some .local := by first | exact .inl rfl | exact .inr rfl | assumption) :
    SS X (.Assign [.Name x pos'] e pos) (cSet i c) := ⟨fun W tk => psI (ps_set hN hi hx (he.run W tk) hs hf) (set_ok (hN := hN))⟩
/-! targets -/
/-- behind a store -/
def PoN (T : Tx) (ρ : En) (σ : L2.St) (H Z : Hp) (o : Out Unit) (W : WX) (Q : L2.St → Hp → Prop) : Prop := match o with
  | .ok _ ρ' => ∀ σ' H' Z', SOk T ρ' σ' H' Z' → Step ρ σ H Z ρ' σ' H' Z' → Q σ' H'
  | .exc x ρ' => ∀ cls d σ' H' Z', SOk T ρ' σ' H' Z' → Step ρ σ H Z ρ' σ' H' Z' → XOk T Z' x cls d → W cls d σ' H'
  | .stuck => False
section
variable {T : Tx} {ρ ρ1 : En} {σ σ1 : L2.St} {H H1 Z Z1 : Hp} {W : WX}
theorem PoN.later {o : Out Unit} {Q : L2.St → Hp → Prop} (h : PoN T ρ σ H Z o W Q) (s : Step ρ σ H Z ρ1 σ1 H1 Z1) : PoN T ρ1 σ1 H1 Z1 o W Q := by
  cases o with
  | stuck => exact h
  | exc x ρ' => exact fun cls d σ' H' Z' S E q => h cls d σ' H' Z' S (s.trans E) q
  | ok f ρ' => exact fun σ' H' Z' S E => h σ' H' Z' S (s.trans E)
/-- an expression ahead of a store -/
theorem PoN.bndE {k : Kd α β} {m : Mn α} {f : α → Mn Unit} {Q : L2.St → Hp → Prop} {R : β → Hp → Prop} (h : PoN T ρ σ H Z (CI.bnd m f ρ) W Q)
    (hk : ∀ r b ρ1 H1 Z1, SOk T ρ1 σ H1 Z1 → EStep ρ σ H Z ρ1 H1 Z1 → k.ok T ρ σ H ρ1 H1 Z1 b r → PoN T ρ1 σ H1 Z1 (f r ρ1) W Q → R b H1) : Po k T ρ σ H Z (m ρ) W R := by
  unfold CI.bnd at h
  cases e : m ρ with
  | ok a ρ' => rw [e] at h; exact fun b H' Z' S E q => hk a b ρ' H' Z' S E q (h.later E.step)
  | exc x ρ' => rw [e] at h; exact fun cls d H' Z' S E q => h cls d σ H' Z' S E.step q
  | stuck => rw [e] at h; exact h
/-- two stores -/
theorem PoN.bnd {m : Mn Unit} {f : Unit → Mn Unit} {Q R : L2.St → Hp → Prop} (h : PoN T ρ σ H Z (CI.bnd m f ρ) W Q)
    (hk : ∀ ρ1 σ1 H1 Z1, SOk T ρ1 σ1 H1 Z1 → Step ρ σ H Z ρ1 σ1 H1 Z1 → PoN T ρ1 σ1 H1 Z1 (f () ρ1) W Q → R σ1 H1) : PoN T ρ σ H Z (m ρ) W R := by
  unfold CI.bnd at h
  cases e : m ρ with
  | ok a ρ' => rw [e] at h; exact fun σ' H' Z' S E => hk ρ' σ' H' Z' S E (h.later E)
  | exc x ρ' => rw [e] at h; exact h
  | stuck => rw [e] at h; exact h
/-- a store, then a statement -/
theorem PoS.bndN {m : Mn Unit} {f : Unit → Mn Fl} {Dn : Ends} {R : L2.St → Hp → Prop} (h : PoS T ρ σ H Z (CI.bnd m f ρ) W Dn)
    (hk : ∀ ρ1 σ1 H1 Z1, SOk T ρ1 σ1 H1 Z1 → Step ρ σ H Z ρ1 σ1 H1 Z1 → PoS T ρ1 σ1 H1 Z1 (f () ρ1) W Dn → R σ1 H1) : PoN T ρ σ H Z (m ρ) W R := by
  unfold CI.bnd at h
  cases e : m ρ with
  | ok a ρ' => rw [e] at h; exact fun σ' H' Z' S E => hk ρ' σ' H' Z' S E (h.later E)
  | exc x ρ' => rw [e] at h; exact h
  | stuck => rw [e] at h; exact h
def tG (T : Tx) (W : WX) (t : Tg) : TG := fun v σ H Q => ∃ ρ Z d, SOk T ρ σ H Z ∧ Rep T Z d v ∧ PoN T ρ σ H Z (t d ρ) W Q
def tGs (T : Tx) (W : WX) (ts : List Tg) : TGs := fun vs σ H Q => ∃ ρ Z ds, SOk T ρ σ H Z ∧ Reps T Z ds vs ∧ PoN T ρ σ H Z (tAll ts ds ρ) W Q
end
/-- an own object changes -/
theorem SOk.mut {T : Tx} {ρ : En} {σ : L2.St} {H Z : Hp} (S : SOk T ρ σ H Z) {d d' : D} {a : Addr} {o : HO} (h : ρ[i]? = some (.own d)) (ha : σ[i]? = some (some (.ref a))) (hr : OR T (upd H a o) Z a d') (ho : isObj d' = true → isObj d = true) :
    SOk T (ρ.set i (.own d')) σ (upd H a o) Z ∧ Step ρ σ H Z (ρ.set i (.own d')) σ (upd H a o) Z := by
  have oa : OwnA ρ σ a := ⟨i, d, h, ha⟩
  have za : Z a = none := (S.own oa).1
  have own_in : ∀ {b : Addr}, OwnA (ρ.set i (.own d')) σ b → OwnA ρ σ b := fun {b} ⟨j, d2, h1, h2⟩ => by
    rcases set_get h1 with ⟨rfl, e⟩ | ⟨_, e⟩
    · exact ⟨i, d, h, h2⟩
    · exact ⟨j, d2, e, h2⟩
  have bor_in : ∀ {b : Addr}, BorA (ρ.set i (.own d')) σ b → BorA ρ σ b := fun {b} hb => hb.set_out fun _ z => by cases z
  refine ⟨⟨by rw [List.length_set]; exact S.len, fun b u e => ?_, fun j s' hj => ?_, fun j k d1 d2 b h1 h2 h3 h4 => ?_, fun b hb hc => S.sep b (own_in hb) (bor_in hc)⟩, ?_⟩
  · have hb : b ≠ a := fun z => by rw [z, za] at e; cases e
    rw [upd_ne hb]; exact S.sub b u e
  · rcases set_get hj with ⟨rfl, rfl⟩ | ⟨hne, hj⟩
    · exact ⟨a, ha, hr, za⟩
    · have z := S.slot j s' hj
      cases s' with
      | emp => trivial
      | exn _ => exact z
      | val d2 => exact z
      | own d2 =>
        obtain ⟨b, e, r, zn⟩ := z
        have hb : b ≠ a := fun z => by subst z; exact hne (S.inj i j d d2 b h hj ha e)
        exact ⟨b, e, r.mono (upd_ne hb) (.refl _), zn⟩
      | bor d2 =>
        obtain ⟨b, e, r⟩ := z
        have hb : b ≠ a := fun z => by subst z; exact S.sep b oa ⟨j, d2, hj, e⟩
        exact ⟨b, e, r.mono (upd_ne hb) (.refl _)⟩
  · have g1 : ∃ d1', ρ[j]? = some (.own d1') := by
      rcases set_get h1 with ⟨rfl, _⟩ | ⟨_, e⟩
      · exact ⟨d, h⟩
      · exact ⟨d1, e⟩
    have g2 : ∃ d2', ρ[k]? = some (.own d2') := by
      rcases set_get h2 with ⟨rfl, _⟩ | ⟨_, e⟩
      · exact ⟨d, h⟩
      · exact ⟨d2, e⟩
    obtain ⟨_, g1⟩ := g1
    obtain ⟨_, g2⟩ := g2
    exact S.inj j k _ _ b g1 g2 h3 h4
  · refine ⟨fun b u e n => ?_, .refl _, fun b u e => .inl e, fun b hb => .inl (own_in hb), fun b ⟨u, e⟩ => ?_, fun j d2 hj => ?_, fun j d2 hj ob => ?_⟩
    · have hb : b ≠ a := fun z => n (z ▸ oa)
      rw [upd_ne hb]; exact e
    · by_cases hb : b = a
      · subst hb; exact ⟨_, upd_same⟩
      · exact ⟨u, by rw [upd_ne hb]; exact e⟩
    · rcases set_get hj with ⟨_, e⟩ | ⟨_, e⟩
      · cases e
      · exact ⟨e, rfl⟩
    · rcases set_get hj with ⟨rfl, e⟩ | ⟨_, e⟩
      · cases e; exact ⟨⟨d, h, ho ob⟩, rfl⟩
      · exact ⟨⟨d2, e, ob⟩, rfl⟩
/-- a target of the text -/
structure SG (X : Cx) (e : Expr) (t : Tg) : Prop where
  run : ∀ W, Takes X W → PG X e (tG (tx X) W t)
structure SGs (X : Cx) (es : List Expr) (ts : List Tg) : Prop where
  run : ∀ W, Takes X W → PGs X es (tGs (tx X) W ts)
theorem pgI {t u : TG} (h : PG X e t) (k : ∀ v σ H Q, u v σ H Q → t v σ H Q) : PG X e u := ⟨fun pins s σ H v uv Q I r q => h.run pins s σ H v uv Q I r (k v σ H Q q)⟩
theorem pgsI {es : List Expr} {t u : TGs} (h : PGs X es t) (k : ∀ v σ H Q, u v σ H Q → t v σ H Q) : PGs X es u := ⟨fun pins s σ H v uv Q I r q => h.run pins s σ H v uv Q I r (k v σ H Q q)⟩
theorem sg_nm (hN : X.N.Nodup) (hi : X.N[i]? = some x) (hx : Loc X.env.scope x) (hf : X.fn x = true ∨ X.env.scope.names.lookup x = some .local := by first | exact .inl rfl | exact .inr rfl | assumption) : SG X (.Name x pos) (tNm i) :=
  ⟨fun W tk => pgI (pg_name hN hi hx hf) fun v σ H Q ⟨ρ, Z, d, S, r, p⟩ => p _ _ _ (S.store (fun _ z => by cases z) ⟨v, rfl, r⟩ fun _ _ z => by cases z) (.store (T := tx X) (fun _ z => by cases z) fun _ z => by cases z)⟩
theorem sgs_nil : SGs X [] [] := ⟨fun W tk => pgsI pgs_nil fun v σ H Q ⟨ρ, Z, ds, S, r, p⟩ => by
  cases ds with
  | nil => exact ⟨r, p σ H Z S (.refl _ _ _ _)⟩
  | cons d ds => exact p.elim⟩
theorem sgs_cons {es : List Expr} {t : Tg} {ts : List Tg} (h1 : SG X e t) (h2 : SGs X es ts) (hs : (assignEach (e :: es) X.env).map (·.2) = assign e X.env :: (assignEach es X.env).map (·.2) := by rfl) : SGs X (e :: es) (t :: ts) :=
  ⟨fun W tk => pgsI (pgs_cons (h1.run W tk) (h2.run W tk) hs) fun v σ H Q ⟨ρ, Z, ds, S, r, p⟩ => by
    cases ds with
    | nil => exact p.elim
    | cons d ds =>
      obtain ⟨v0, vr, rfl, q1, q2⟩ := r
      exact ⟨v0, vr, rfl, ρ, Z, d, S, q1, PoN.bnd (T := tx X) p fun ρ1 σ1 H1 Z1 S1 E1 p1 => ⟨ρ1, Z1, ds, S1, q2.mono E1.le, p1⟩⟩⟩
theorem sg_tup {es : List Expr} {k : Nat} {ts : List Tg} (hc : X.calm = true) (h : SGs X es ts) (hn : (assignEach es X.env).length = ts.length := by rfl) (hst : (assignEach es X.env).findIdx? (·.1) = none := by rfl) : SG X (.Tuple es k pos) (tTup ts) :=
  ⟨fun W tk => pgI (pg_tup hc (h.run W tk) hn hst) fun v σ H Q ⟨ρ, Z, d, S, r, p⟩ => by
    cases d with
    | tup ds =>
      obtain ⟨a, vs, rfl, q, r⟩ := r
      simp only [tTup] at p
      by_cases hl : ds.length = ts.length
      · rw [if_pos hl] at p
        exact ⟨a, vs, rfl, S.sub.sqT q, by rw [← r.length]; exact hl, ρ, Z, ds, S, r, p⟩
      · rw [if_neg hl] at p; exact p.elim
    | _ => exact p.elim⟩
theorem needOwn_ok {T : Tx} {ρ : En} {σ : L2.St} {H Z : Hp} (S : SOk T ρ σ H Z) (h : ¬ needOwn i ρ = .stuck) : ∃ ds a vs, ρ[i]? = some (.own (.lst ds)) ∧ σ[i]? = some (some (.ref a)) ∧ H a = some (.lst vs) ∧ Reps T Z ds vs ∧ needOwn i ρ = .ok () ρ := by
  unfold needOwn at h ⊢
  cases q : ρ[i]? with
  | none => rw [q] at h; exact absurd rfl h
  | some s =>
    rw [q] at h
    cases s with
    | own d =>
      cases d with
      | lst ds =>
        obtain ⟨a, e, ⟨vs, r1, r2⟩, _⟩ := S.slot i _ q
        exact ⟨ds, a, vs, rfl, e, r1, r2, rfl⟩
      | _ => exact absurd rfl h
    | _ => exact absurd rfl h
theorem mutU_ok {T : Tx} {ρ : En} {f : D → Option D} (h : ¬ mutU i f ρ = .stuck) : ∃ d d', ρ[i]? = some (.own d) ∧ f d = some d' ∧ mutU i f ρ = .ok () (ρ.set i (.own d')) := by
  unfold mutU at h ⊢
  cases q : ρ[i]? with
  | none => rw [q] at h; exact absurd rfl h
  | some s =>
    rw [q] at h
    cases s with
    | own d =>
      cases hf : f d with
      | none => simp only [hf] at h; exact absurd trivial h
      | some d' => exact ⟨d, d', rfl, hf, by simp only [hf]⟩
    | _ => exact absurd rfl h
theorem PoN.ns {T : Tx} {ρ : En} {σ : L2.St} {H Z : Hp} {W : WX} {Q : L2.St → Hp → Prop} {o : Out Unit} (p : PoN T ρ σ H Z o W Q) : ¬ o = .stuck := fun e => by rw [e] at p; exact p
theorem PoN.need {T : Tx} {ρ : En} {σ : L2.St} {H Z : Hp} {W : WX} {Q : L2.St → Hp → Prop} {f : Unit → Mn Unit} (S : SOk T ρ σ H Z) (p : PoN T ρ σ H Z (CI.bnd (needOwn i) f ρ) W Q) :
    ∃ ds a vs, ρ[i]? = some (.own (.lst ds)) ∧ σ[i]? = some (some (.ref a)) ∧ H a = some (.lst vs) ∧ Reps T Z ds vs ∧ PoN T ρ σ H Z (f () ρ) W Q := by
  have hn : ¬ needOwn i ρ = .stuck := fun e => by unfold CI.bnd at p; rw [e] at p; exact p
  obtain ⟨ds, a, vs, h1, h2, h3, h4, h5⟩ := needOwn_ok S hn
  unfold CI.bnd at p
  rw [h5] at p
  exact ⟨ds, a, vs, h1, h2, h3, h4, p⟩
theorem PoS.need {T : Tx} {ρ : En} {σ : L2.St} {H Z : Hp} {W : WX} {Dn : Ends} {f : Unit → Mn Fl} (S : SOk T ρ σ H Z) (p : PoS T ρ σ H Z (CI.bnd (needOwn i) f ρ) W Dn) :
    ∃ ds a vs, ρ[i]? = some (.own (.lst ds)) ∧ σ[i]? = some (some (.ref a)) ∧ H a = some (.lst vs) ∧ Reps T Z ds vs ∧ PoS T ρ σ H Z (f () ρ) W Dn := by
  have hn : ¬ needOwn i ρ = .stuck := fun e => by unfold CI.bnd at p; rw [e] at p; exact p
  obtain ⟨ds, a, vs, h1, h2, h3, h4, h5⟩ := needOwn_ok S hn
  unfold CI.bnd at p
  rw [h5] at p
  exact ⟨ds, a, vs, h1, h2, h3, h4, p⟩
/-- the store of an own list's item -/
theorem setIx_ok {T : Tx} {ρ : En} {σ : L2.St} {H Z : Hp} {W : WX} {Q : L2.St → Hp → Prop} {kd d : D} {v w : V} (S : SOk T ρ σ H Z) (p : PoN T ρ σ H Z (mutU i (setD kd d) ρ) W Q) (hi : σ[i]? = some (some v)) (hk : RdOk T H Z w kd) {u : V} (hd : Rep T Z d u) :
    rSetL v w u H fun H3 => Q σ H3 := by
  obtain ⟨d0, d', h1, h2, h3⟩ := mutU_ok (T := T) p.ns
  rw [h3] at p
  unfold setD at h2
  split at h2
  · rename_i ds
    split at h2
    · rename_i n
      cases hj : ixN ds.length n with
      | none => rw [hj] at h2; cases h2
      | some j =>
        rw [hj] at h2; cases h2
        obtain ⟨a, e, ⟨vs, r1, r2⟩, _⟩ := S.slot i _ h1
        rw [hi] at e; cases e
        have M := S.mut (d' := .lst (ds.set j d)) (o := .lst (vs.set j u)) h1 hi ⟨vs.set j u, upd_same, r2.set hd j⟩ fun z => by cases z
        exact ⟨a, vs, n, j, rfl, rd_int hk, r1, by rw [← r2.length]; exact hj, p σ _ Z M.1 M.2⟩
    · cases h2
  · cases h2
theorem sg_sub {k : Expr} {ck : Mn Rv} {po : Pos} (hN : X.N[i]? = some x) (hv : Vis X.env.scope x) (hk : SE X k ck) (hd : (x == ("__debug__" : Str)) = false := by decide) (hcd : (x == ("__classdict__" : Str)) = false := by decide)
    (ha : ∀ v, assign (.Subscript (.Name x po) k pos) X.env v = (do
      let ov ← holding [v] (eval (.Name x po) X.env)
      let iv ← holding [v, ov] (eval k X.env)
      standAt pos
      holding [v, ov, iv] (setItem ov iv v)
      release [v, ov, iv] []) := by intro _; rfl) : SG X (.Subscript (.Name x po) k pos) (tSub i ck) :=
  ⟨fun W tk => pgI (pg_sub (pe_var hN hv hd hcd) (hk.run W tk) set_list ha) fun v σ H Q ⟨ρ, Z, d, S, r, p⟩ => by
    obtain ⟨ds, a, vs, h1, h2, h3, h4, p1⟩ := PoN.need S p
    have p1 : PoN (tx X) ρ σ H Z (CI.bnd ck (fun r => mutU i (setD r.d d)) ρ) W Q := by
      have e : CI.bnd (cR ck) (fun kd => mutU i (setD kd d)) = CI.bnd ck (fun r => mutU i (setD r.d d)) := by unfold cR; rw [bnd_assoc]; rfl
      rw [← e]; exact p1
    exact ⟨_, h2, ρ, Z, S, p1.bndE (k := kE) fun rk v1 ρ1 H1 Z1 S1 E1 o1 p2 => setIx_ok S1 p2 h2 (RvOk.read o1) (Rep.mono E1.step.le r)⟩⟩
theorem ss_setT {tg : Expr} {t : Tg} {cd : Mn D} (he : SD X e cd) (hg : SG X tg t) (hs : swapsWithSole [tg] e pos.line X.env = pure false := by rfl) (hw : swappedStores [tg] e X.env = pure none := by rfl)
    (h1 : (assignEach [tg] X.env).map (·.2) = [assign tg X.env] := by rfl) : SS X (.Assign [tg] e pos) (cSetT t cd) :=
  ⟨fun W tk => psI (ps_asg (he.run W tk) (hg.run W tk) hs hw h1) (tS_of fun ρ σ H Z Dn S p => ⟨ρ, Z, S, p.bnd (k := kD) fun d v ρ1 H1 Z1 S1 E1 o1 p1 =>
    ⟨ρ1, Z1, d, S1, o1, PoS.bndN (T := tx X) p1 fun ρ2 σ2 H2 Z2 S2 E2 p2 => p2 σ2 H2 Z2 S2 (.refl _ _ _ _)⟩⟩)⟩
end
end CI
end
section
set_option maxRecDepth 100000
/-! CILoop: append, op=, loops. -/
namespace CI
open PySem L2 PyProof.Rows
section
variable {X : Cx} {e a b k : Expr} {c ca cb ck : Mn Rv} {ta : Mn Bool} {st : Stmt} {body : List Stmt} {m u : Mn Fl} {pos po pc : Pos} {i : Nat} {x : Str}
theorem bnd_cR {f : D → Mn α} : CI.bnd (cR c) f = CI.bnd c fun r => f r.d := by unfold cR; rw [bnd_assoc]; rfl
theorem ss_app {apos cpos : Pos} (hN : X.N[i]? = some x) (hv : Vis X.env.scope x) (he : SE X e c) (hd : (x == ("__debug__" : Str)) = false := by decide) (hcd : (x == ("__classdict__" : Str)) = false := by decide)
    (hbase : attributeBase (.Name x po) "append" X.env (eval (.Name x po) X.env) = eval (.Name x po) X.env := by rfl)
    (hfew : ((backTo cpos (starEach [e] X.env)).all (fun x => !x.1) && (backToKw cpos (keywordEach [] X.env)).all (fun x => x.1.isSome)
      && decide (([e] : List Expr).length + ([] : List Keyword).length + (if ([] : List Keyword).isEmpty then 0 else 1) < 30)) = true := by rfl)
    (hline : (apos.endLine == cpos.line) = true := by rfl) (hs : starEach [e] X.env = (false, eval e X.env) :: starEach [] X.env := by rfl) (hplain : (backTo cpos (starEach [] X.env)).any (·.1) = false := by rfl)
    (hsw : swapsWith (.Call (.Attribute (.Name x po) "append" apos) [e] [] cpos) none pos.line X.env = pure false := by rfl) :
    SS X (.Expr (.Call (.Attribute (.Name x po) "append" apos) [e] [] cpos) pos) (cApp i c) :=
  ⟨fun W tk => psI (ps_expr (pe_bm PySem.F.plainAttrs_list PySem.F.slot_list_append PySem.F.type_list_append mt_append (pe_var hN hv hd hcd) (pa_cons ((sd_v he).run W tk) pa_nil hs) hbase hfew hline hs hplain) hsw) (tS_of fun ρ σ H Z Dn S p => by
    obtain ⟨ds, a, vs, h1, h2, h3, h4, p1⟩ := PoS.need S p
    refine ⟨_, h2, .inl ⟨rfl, vs, .of h3⟩, ρ, Z, S, p1.bnd (k := kD) fun d v ρ1 H1 Z1 S1 E1 o1 p2 => ?_⟩
    have p3 := PoS.bndN (R := fun σ' H' => Dn.nx σ' H') p2 fun ρ2 σ2 H2 Z2 S2 E2 p4 => p4 σ2 H2 Z2 S2 (.refl _ _ _ _)
    obtain ⟨d0, d', g1, g2, g3⟩ := mutU_ok (T := tx X) p3.ns
    rw [g3] at p3
    unfold appD at g2
    split at g2
    · rename_i ds'
      split at g2
      · rename_i hz
        cases g2
        obtain ⟨a', e', ⟨vs', r1, r2⟩, _⟩ := S1.slot i _ g1
        rw [h2] at e'; cases e'
        have M := S1.mut (d' := .lst (ds' ++ [d])) (o := .lst (vs' ++ [v])) g1 h2 ⟨_, upd_same, r2.append (.single o1)⟩ fun z => by cases z
        exact ⟨a, vs', v, rfl, rfl, r1, by rw [← r2.length]; exact hz, p3 σ _ Z1 M.1 M.2⟩
      · cases g2
    · cases g2)⟩

/-! op= -/
/-- a number rule serves f -/
def FitsA (t : TIp) (f : D → D → Option D) : Prop := ∀ {T H Z dx dy x y d Q}, RdOk T H Z x dx → RdOk T H Z y dy → f dx dy = some d → (∀ v, (∀ Z', Rep T Z' d v) → Q v H) → t x y H Q
theorem fitsA_add : FitsA (ipI fun i j => i + j) augAdd := fun {T H Z dx dy x y d Q} h1 h2 e k => by
  unfold augAdd at e
  split at e
  · cases e; exact ⟨_, _, rd_int h1, rd_int h2, k _ fun _ => rfl⟩
  · cases e
theorem fitsA_sub : FitsA (ipI fun i j => i - j) augSub := fun {T H Z dx dy x y d Q} h1 h2 e k => by
  unfold augSub at e
  split at e
  · cases e; exact ⟨_, _, rd_int h1, rd_int h2, k _ fun _ => rfl⟩
  · cases e
theorem varOk {T : Tx} {ρ : En} {σ : L2.St} {H Z : Hp} {Dn : Ends} {W : WX} {f : Rv → Mn Fl} (S : SOk T ρ σ H Z) (p : PoS T ρ σ H Z (CI.bnd (cVar i) f ρ) W Dn) : ∃ r v, σ[i]? = some (some v) ∧ RdOk T H Z v r.d ∧ PoS T ρ σ H Z (f r ρ) W Dn := by
  unfold CI.bnd cVar at p
  cases q : ρ[i]? with
  | none => rw [q] at p; exact p.elim
  | some s =>
    have z := S.slot i s q
    rw [q] at p
    cases s with
    | emp => exact p.elim
    | exn _ => exact p.elim
    | val d => obtain ⟨v, ev, r⟩ := z; exact ⟨.val d, v, ev, .inl r, p⟩
    | own d => obtain ⟨a, ev, r, _⟩ := z; exact ⟨.bor d, _, ev, .inr ⟨a, rfl, r⟩, p⟩
    | bor d => obtain ⟨a, ev, r⟩ := z; exact ⟨.bor d, _, ev, .inr ⟨a, rfl, r⟩, p⟩
theorem PoS.ofO' {T : Tx} {ρ : En} {σ : L2.St} {H Z : Hp} {Dn : Ends} {W : WX} {o : Option α} {f : α → Mn Fl} (h : PoS T ρ σ H Z (CI.bnd (CI.ofO o) f ρ) W Dn) : ∃ a, o = some a ∧ PoS T ρ σ H Z (f a ρ) W Dn := PoS.ofO h
theorem ss_aug {op : Operator} {t : TIp} {f : D → D → Option D} {pos' : Pos} (hN : X.N.Nodup) (hi : X.N[i]? = some x) (hx : Loc X.env.scope x) (he : SE X e c) (ho : PIp X op t) (hf : FitsA t f)
    (hfn : X.fn x = true ∨ X.env.scope.names.lookup x = some .local := by first | exact .inl rfl | exact .inr rfl | assumption) : SS X (.AugAssign (.Name x pos') op e pos) (cAug f i c) :=
  ⟨fun W tk => psI (L2.ps_aug hN hi hx (he.run W tk) ho hfn) (tS_of fun ρ σ H Z Dn S p => by
    obtain ⟨r1, v1, e1, o1, p1⟩ := varOk S p
    refine ⟨v1, e1, ρ, Z, S, p1.bnd (k := kE) fun r2 v2 ρ2 H2 Z2 S2 E2 o2 p2 => ?_⟩
    obtain ⟨d, ed, p3⟩ := PoS.ofO p2
    exact hf (o1.mono E2.same E2.step.le) (RvOk.read o2) ed fun v q => p3 _ _ _ (S2.store (fun _ z => by cases z) ⟨v, rfl, q _⟩ fun _ _ z => by cases z) (.store (T := tx X) (fun _ z => by cases z) fun _ z => by cases z))⟩
/-- the item of a list, as op= reads it -/
theorem pg_list : PGet X (fun o i H Q => ∃ p xs n v, o = .ref p ∧ i = .int n ∧ SqL X.K H p xs ∧ 0 ≤ n ∧ atI xs n = some v ∧ Q v H) := by
  intro pins s σ H o i ov iv Q I ro ri h
  obtain ⟨p, xs, n, v, rfl, rfl, hq, h0, hv, q⟩ := h
  cases ro
  obtain ⟨t, rfl⟩ := ri
  obtain ⟨its, r, pl, hz⟩ := I.list hq
  obtain ⟨j, h1, h2, h3, h4, h5⟩ := atI_get hv
  obtain ⟨w, ew, rw'⟩ := r.get h2
  have hl := r.length
  have hn := line63
  have hj : n.toNat = j := by
    rw [seqIndex_of h0 h5] at h1
    exact Option.some.inj h1
  exact wpAny_getItem_list pl.isList h0 (by omega) (by rw [hj]; simpa using ew) ⟨v, H, I, rw', q⟩
theorem cGet_ok {k : D} {ρ : En} (h : ¬ cGet i k ρ = .stuck) : ∃ d0 dx, ρ[i]? = some (.own d0) ∧ getD k d0 = some dx ∧ cGet i k ρ = .ok dx ρ := by
  unfold cGet at h ⊢
  cases q : ρ[i]? with
  | none => rw [q] at h; exact absurd rfl h
  | some s =>
    rw [q] at h
    cases s with
    | own d =>
      cases hf : getD k d with
      | none => simp only [hf] at h; exact absurd rfl h
      | some d' => exact ⟨d, d', rfl, hf, by simp only [hf]; rfl⟩
    | _ => exact absurd rfl h
theorem ss_augIx {op : Operator} {t : TIp} {f : D → D → Option D} {tpos : Pos} (hN : X.N[i]? = some x) (hv : Vis X.env.scope x) (hk : SE X k ck) (he : SE X e c) (ho : PIp X op t) (hf : FitsA t f) (hd : (x == ("__debug__" : Str)) = false := by decide) (hcd : (x == ("__classdict__" : Str)) = false := by decide)
    (ha : ∀ ov iv new, augStore k ov iv new = (do holding [new, ov, iv] (setItem ov iv new); release [new, ov, iv] []; pure .next) := by intros; rfl) : SS X (.AugAssign (.Subscript (.Name x po) k tpos) op e pos) (cAugIx f i ck c) :=
  ⟨fun W tk => psI (ps_augS (pe_var hN hv hd hcd) (hk.run W tk) pg_list (he.run W tk) ho set_list ha) (tS_of fun ρ σ H Z Dn S p => by
    obtain ⟨ds, a, vs, h1, h2, h3, h4, p1⟩ := PoS.need S p
    rw [bnd_cR] at p1
    refine ⟨_, h2, ρ, Z, S, p1.bnd (k := kE) fun rk vk ρ1 H1 Z1 S1 E1 o1 p2 => ?_⟩
    have hn : ¬ cGet i rk.d ρ1 = .stuck := fun z => by unfold CI.bnd at p2; rw [z] at p2; exact p2
    obtain ⟨d0, dx, q, hg, eg⟩ := cGet_ok hn
    have p3 : PoS (tx X) ρ1 σ H1 Z1 (CI.bnd c (fun r => CI.bnd (ofO (f dx r.d)) fun d => CI.bnd (mutU i (setD rk.d d)) fun _ => ret .nx) ρ1) W Dn := by
      have e3 : CI.bnd c (fun r => CI.bnd (ofO (f dx r.d)) fun d => CI.bnd (mutU i (setD rk.d d)) fun _ => (ret Fl.nx : Mn Fl)) = CI.bnd (cR c) (fun y => CI.bnd (ofO (f dx y)) fun d => CI.bnd (mutU i (setD rk.d d)) fun _ => (ret Fl.nx : Mn Fl)) := by unfold cR; rw [bnd_assoc]; rfl
      rw [e3]
      unfold CI.bnd at p2
      rw [eg] at p2
      exact p2
    obtain ⟨a', e', rr, _⟩ := S1.slot i _ q
    rw [h2] at e'; cases e'
    unfold getD at hg
    split at hg
    · rename_i ds1
      obtain ⟨vs1, r1, r2⟩ := rr
      split at hg
      · rename_i n hkd
        split at hg
        · rename_i h0
          obtain ⟨vx, hvx, rx⟩ := atI_reps r2 hg
          have hkr := RvOk.read o1
          rw [hkd] at hkr
          refine ⟨a, vs1, n, vx, rfl, rd_int hkr, .of r1, h0, hvx, ?_⟩
          refine ⟨ρ1, Z1, S1, p3.bnd (k := kE) fun r2' v2 ρ2 H2 Z2 S2 E2 o2 p4 => ?_⟩
          obtain ⟨d, ed, p5⟩ := PoS.ofO p4
          refine hf (T := tx X) (.inl (rx.mono E2.step.le)) (RvOk.read o2) ed fun v qv => ?_
          have p6 := PoS.bndN (R := fun σ' H' => Dn.nx σ' H') p5 fun ρ3 σ3 H3 Z3 S3 E3 p7 => p7 σ3 H3 Z3 S3 (.refl _ _ _ _)
          exact setIx_ok S2 p6 h2 ((RvOk.read o1).mono E2.same E2.step.le) (qv _)
        · cases hg
      · cases hg
    · cases hg)⟩

/-! what loops walk -/
/-- J walks ds -/
def Src (T : Tx) (G : Addr → Prop) (ρ : En) (σ : L2.St) (H Z : Hp) (J : It) (ds : List D) : Prop :=
  ∃ P : List Addr, (∀ a ∈ P, (∃ o, H a = some o) ∧ ¬ OwnA ρ σ a ∧ G a) ∧
    ∀ H1 Z1, (∀ a ∈ P, H1 a = H a) → Le Z Z1 → Le Z1 H1 → J.stop ds.length H1 ∧
      ∀ (i : Nat) (d : D), ds[i]? = some d → J.go i H1 ∧ ∀ x H2, J.yld i H1 x H2 → Le H1 H2 ∧ ∃ Z2, Le Z1 Z2 ∧ Le Z2 H2 ∧ (∀ a o, Z2 a = some o → Z1 a = some o ∨ H1 a = none) ∧ Rep T Z2 d x
theorem Src.later {T : Tx} {G : Addr → Prop} {ρ ρ1 : En} {σ σ1 : L2.St} {H H1 Z Z1 : Hp} {J : It} {ds : List D} (h : Src T G ρ σ H Z J ds) (s : Step ρ σ H Z ρ1 σ1 H1 Z1) : Src T G ρ1 σ1 H1 Z1 J ds := by
  obtain ⟨P, hP, hs⟩ := h
  refine ⟨P, fun a ha => ?_, fun H2 Z2 h1 h2 h3 => hs H2 Z2 (fun a ha => ?_) (s.le.trans h2) h3⟩
  · obtain ⟨⟨o, ho⟩, hn, hg⟩ := hP a ha
    exact ⟨⟨o, s.frame a o ho hn⟩, fun q => (s.own a q).elim hn (fun z => by rw [ho] at z; cases z), hg⟩
  · obtain ⟨⟨o, ho⟩, hn, _⟩ := hP a ha
    rw [h1 a ha, s.frame a o ho hn, ho]
/-- whence what is walked may come -/
def From (ρ : En) (σ : L2.St) (H Z' : Hp) (a : Addr) : Prop := (H a = none ∨ OwnA ρ σ a) ∨ (∃ o, Z' a = some o) ∨ BorA ρ σ a
theorem bor_back {ρ ρ1 : En} {σ : L2.St} {H H1 Z Z1 : Hp} (s : Step ρ σ H Z ρ1 σ H1 Z1) {a : Addr} (h : BorA ρ1 σ a) : BorA ρ σ a := by
  obtain ⟨j, d, h1, h2⟩ := h
  exact ⟨j, d, (s.bor j d h1).1, h2⟩
theorem From.base {ρ ρ1 : En} {σ : L2.St} {H H1 Z Z1 Z' : Hp} (s : Step ρ σ H Z ρ1 σ H1 Z1) {a : Addr} (h : From ρ1 σ H1 Z' a) : From ρ σ H Z' a :=
  h.elim (fun q => .inl (own_base s q)) fun q => q.elim (fun z => .inr (.inl z)) fun z => .inr (.inr (bor_back s z))
def kI (T : Tx) (σ : L2.St) : Kd (List D) It := ⟨fun T' ρ σ1 H ρ' H' Z' J ds => Src T (From ρ σ1 H Z') ρ' σ H' Z' J ds, fun s h => by
  obtain ⟨P, hP, hs⟩ := h
  exact ⟨P, fun a ha => ⟨(hP a ha).1, (hP a ha).2.1, (hP a ha).2.2.base s.step⟩, hs⟩⟩
/-- what a for walks -/
structure SI (X : Cx) (tg iter : Expr) (c : Mn (List D)) : Prop where
  run : ∀ W, Takes X W → PI X tg iter (fun σ H R => tK (kI (tx X) σ) (tx X) W c σ H R)
theorem step_grow {ρ : En} {σ : L2.St} {H H' Z Z' : Hp} (h1 : Le H H') (h2 : Le Z Z') (h3 : ∀ a o, Z' a = some o → Z a = some o ∨ H a = none) : Step ρ σ H Z ρ σ H' Z' :=
  ⟨fun a o e _ => h1 a o e, h2, fun a o e => (h3 a o e).elim .inl fun z => .inr (.inl z), fun a h => .inl h, fun a ⟨o, e⟩ => ⟨o, h1 a o e⟩, fun j d h => ⟨h, rfl⟩, fun _ d h o => ⟨⟨d, h, o⟩, rfl⟩⟩
theorem SOk.growN {T : Tx} {ρ : En} {σ : L2.St} {H H' Z Z' : Hp} (S : SOk T ρ σ H Z) (h1 : Le H H') (h2 : Le Z Z') (h3 : Le Z' H') (h4 : ∀ a o, Z' a = some o → Z a = some o ∨ H a = none) : SOk T ρ σ H' Z' :=
  S.slots h3 h1 h2 fun a ha => by
    obtain ⟨z, o, ho⟩ := S.own ha
    cases e : Z' a with
    | none => rfl
    | some u =>
      rcases h4 a u e with q | q
      · rw [z] at q; cases q
      · rw [ho] at q; cases q
theorem drop_cons {ds : List D} {i : Nat} {d : D} (h : ds[i]? = some d) : ds.drop i = d :: ds.drop (i + 1) := by
  have hi : i < ds.length := by
    rcases Nat.lt_or_ge i ds.length with q | q
    · exact q
    · rw [List.getElem?_eq_none q] at h; cases h
  rw [List.drop_eq_getElem_cons hi]
  rw [List.getElem?_eq_getElem hi] at h
  rw [Option.some.inj h]
theorem for_ok {W : WX} {t : Tg} {ds : List D} {J : It} {ρ : En} {σ : L2.St} {H Z : Hp} {Dn : Ends} (S : SOk (tx X) ρ σ H Z) {G : Addr → Prop} (hs : Src (tx X) G ρ σ H Z J ds) (p : PoS (tx X) ρ σ H Z (forL t m ds ρ) W Dn) :
    ∃ Wi : Nat → Nat → L2.St → Hp → Prop, (∃ n, Wi 0 n σ H) ∧ ∀ i n σ H, Wi i n σ H →
      (J.stop i H ∧ Dn.nx σ H) ∨ (J.go i H ∧ ∃ N : L2.St → Hp → Prop, (∀ σ' H', N σ' H' → ∃ m', m' < n ∧ Wi (i + 1) m' σ' H') ∧ ∀ x H', J.yld i H x H' → tG (tx X) W t x σ H' fun σ2 H2 => tS (tx X) W m { Dn with nx := N, ct := N, bk := Dn.nx } σ2 H2) := by
  refine ⟨fun i n σ H => n = ds.length - i ∧ i ≤ ds.length ∧ ∃ ρ Z, SOk (tx X) ρ σ H Z ∧ Src (tx X) G ρ σ H Z J ds ∧ PoS (tx X) ρ σ H Z (forL t m (ds.drop i) ρ) W Dn, ⟨_, rfl, Nat.zero_le _, ρ, Z, S, hs, by rw [List.drop_zero]; exact p⟩, ?_⟩
  rintro i n σ H ⟨rfl, hi, ρ, Z, S, hs, p⟩
  obtain ⟨P, hP, src⟩ := id hs
  obtain ⟨hstop, hgo⟩ := src H Z (fun _ _ => rfl) (.refl _) S.sub
  rcases Nat.lt_or_ge i ds.length with hlt | hge
  · have hd : ds[i]? = some ds[i] := List.getElem?_eq_getElem hlt
    obtain ⟨g, y⟩ := hgo i _ hd
    refine .inr ⟨g, fun σ' H' => ds.length - (i + 1) = ds.length - (i + 1) ∧ i + 1 ≤ ds.length ∧ ∃ ρ Z, SOk (tx X) ρ σ' H' Z ∧ Src (tx X) G ρ σ' H' Z J ds ∧ PoS (tx X) ρ σ' H' Z (forL t m (ds.drop (i + 1)) ρ) W Dn, fun σ' H' h => ⟨_, by omega, h⟩, fun x H' yx => ?_⟩
    obtain ⟨l1, Z2, l2, l3, l4, r⟩ := y x H' yx
    have S2 := S.growN l1 l2 l3 l4
    have E2 : Step ρ σ H Z ρ σ H' Z2 := step_grow l1 l2 l4
    rw [drop_cons hd] at p
    have p2 := p.later E2
    unfold forL at p2
    refine ⟨ρ, Z2, ds[i], S2, r, PoS.bndN p2 fun ρ3 σ3 H3 Z3 S3 E3 p3 => ⟨ρ3, Z3, S3, ?_⟩⟩
    have hs3 := (hs.later E2).later E3
    cases q : m ρ3 with
    | stuck => rw [q] at p3; exact p3
    | exc x ρ' => rw [q] at p3; exact p3
    | ok f ρ' =>
      rw [q] at p3
      cases f with
      | ret r => exact p3
      | brk => exact p3
      | nx => exact fun σ' H' Z' S' E' => ⟨rfl, hlt, ρ', Z', S', hs3.later E', PoS.later p3 E'⟩
      | cnt => exact fun σ' H' Z' S' E' => ⟨rfl, hlt, ρ', Z', S', hs3.later E', PoS.later p3 E'⟩
  · have e : i = ds.length := by omega
    subst e
    rw [List.drop_length] at p
    exact .inl ⟨hstop, p σ H Z S (.refl _ _ _ _)⟩
theorem ss_for {tg iter : Expr} {t : Tg} {ci : Mn (List D)} (hp : PassesOwn (model X.prog X.w) X.A X.env X.xe) (hc : X.calm = true) (hi : SI X tg iter ci) (hg : SG X tg t) (hb : SSs X body m)
    (hs : ∀ x, foldedSetIterable iter X.env x = pure x := by intro _; rfl) : SS X (.For tg iter body [] pos) (cFor ci t m) :=
  ⟨fun W tk => psI (ps_for hp hc (hi.run W tk) (hg.run W tk) (hb.run W tk) hs) (tS_of fun ρ σ H Z Dn S p => ⟨ρ, Z, S, p.bnd (k := kI (tx X) σ) fun ds J ρ1 H1 Z1 S1 E1 o1 p1 => for_ok S1 o1 p1⟩)⟩

/-! while -/
theorem ss_while (hp : PassesOwn (model X.prog X.w) X.A X.env X.xe) (hc : STt X e ta) (hb : SSs X body m) : SS X (.While e body [] pos) (cWhile ta m) :=
  ⟨fun W tk => psI (ps_while hp (hc.run W tk) (hb.run W tk)) (tS_of fun ρ σ H Z Dn S p => by
    unfold cWhile at p
    split at p
    · rename_i hx
      refine ⟨fun n σ H => ∃ ρ Z, SOk (tx X) ρ σ H Z ∧ PoS (tx X) ρ σ H Z (whileN ta m n ρ) W Dn, ⟨_, ρ, Z, S, p⟩, ?_⟩
      rintro n σ H ⟨ρ, Z, S, p⟩
      cases n with
      | zero => exact p.elim
      | succ n =>
        unfold whileN at p
        refine ⟨ρ, Z, S, p.bnd (k := kB) fun kb b ρ1 H1 Z1 S1 E1 o1 p1 => ?_⟩
        cases o1
        cases kb with
        | false => exact p1 σ H1 Z1 S1 (.refl _ _ _ _)
        | true =>
          refine ⟨fun σ' H' => ∃ ρ Z, SOk (tx X) ρ σ' H' Z ∧ PoS (tx X) ρ σ' H' Z (whileN ta m n ρ) W Dn, fun σ' H' h => ⟨n, Nat.lt_succ_self n, h⟩, ρ1, Z1, S1, ?_⟩
          simp only [if_true] at p1
          cases q : m ρ1 with
          | stuck => rw [q] at p1; exact p1
          | exc x ρ' => rw [q] at p1; exact p1
          | ok f ρ' =>
            rw [q] at p1
            cases f with
            | ret r => exact p1
            | brk => exact p1
            | nx => exact fun σ' H' Z' S' E' => ⟨ρ', Z', S', PoS.later p1 E'⟩
            | cnt => exact fun σ' H' Z' S' E' => ⟨ρ', Z', S', PoS.later p1 E'⟩
    · exact p.elim)⟩
end
end CI
end
section
set_option maxRecDepth 100000
/-! CIIter: what is walked; a slot borrowed meanwhile. -/
namespace CI
open PySem L2 PyProof.Rows
section
variable {T : Tx} {ρ ρ' : En} {σ σ' : L2.St} {H H' Z Z' : Hp} {j : Nat} {d : D} {a : Addr}
theorem SOk.lock (S : SOk T ρ σ H Z) (h : ρ[j]? = some (.own d)) : SOk T (ρ.set j (.bor d)) σ H Z := by
  obtain ⟨a, ea, r, z⟩ := S.slot j _ h
  refine ⟨by rw [List.length_set]; exact S.len, S.sub, fun i s hi => ?_, fun i k d1 d2 b h1 h2 => ?_, fun b hb hc => ?_⟩
  · rcases set_get hi with ⟨rfl, rfl⟩ | ⟨_, hi⟩
    · exact ⟨a, ea, r⟩
    · exact S.slot i s hi
  · rcases set_get h1 with ⟨_, e⟩ | ⟨_, h1⟩
    · cases e
    · rcases set_get h2 with ⟨_, e⟩ | ⟨_, h2⟩
      · cases e
      · exact S.inj i k d1 d2 b h1 h2
  · obtain ⟨i, d1, h1, h2⟩ := hb
    rcases set_get h1 with ⟨_, e⟩ | ⟨n1, h1⟩
    · cases e
    · obtain ⟨k, d2, g1, g2⟩ := hc
      rcases set_get g1 with ⟨rfl, e⟩ | ⟨n2, g1⟩
      · exact n1 (S.inj _ _ _ _ b h h1 g2 h2)
      · exact S.sep b ⟨i, d1, h1, h2⟩ ⟨k, d2, g1, g2⟩
theorem lock_own (h : ρ[j]? = some (.own d)) {b : Addr} (hb : OwnA (ρ.set j (.bor d)) σ b) : OwnA ρ σ b := hb.set_out fun _ z => by cases z
theorem lock_a (S : SOk T ρ σ H Z) (h : ρ[j]? = some (.own d)) (ha : σ[j]? = some (some (.ref a))) (hb : OwnA (ρ.set j (.bor d)) σ a) : False := by
  obtain ⟨i, d1, h1, h2⟩ := hb
  rcases set_get h1 with ⟨_, e⟩ | ⟨n1, h1⟩
  · cases e
  · exact n1 (S.inj _ _ _ _ a h h1 ha h2)
theorem unlock_step (S : SOk T ρ σ H Z) (h : ρ[j]? = some (.own d)) (hno : ¬ isObj d = true) (S' : SOk T ρ' σ' H' Z') (E : Step (ρ.set j (.bor d)) σ H Z ρ' σ' H' Z') :
    SOk T (unbor j ρ') σ' H' Z' ∧ Step ρ σ H Z (unbor j ρ') σ' H' Z' ∧ ∀ b, OwnA (unbor j ρ') σ' b → OwnA ρ' σ' b ∨ (BorA ρ' σ' b ∧ OwnA ρ σ b) := by
  obtain ⟨a, ea, r, z⟩ := S.slot j _ h
  obtain ⟨oa, hoa⟩ := r.there
  -- nothing own stands at a
  have noa : ¬ OwnA ρ' σ' a := fun q => (E.own a q).elim (lock_a S h ea) fun w => by rw [hoa] at w; cases w
  have base : ∀ b, OwnA ρ' σ' b → OwnA ρ σ b ∨ H b = none := fun b q => (E.own b q).elim (fun w => .inl (lock_own h w)) .inr
  have core : Step ρ σ H Z ρ' σ' H' Z' ∨ True := .inr trivial
  have fr : ∀ b o, H b = some o → ¬ OwnA ρ σ b → H' b = some o := fun b o e n => E.frame b o e fun q => n (lock_own h q)
  have gr : ∀ b o, Z' b = some o → Z b = some o ∨ H b = none ∨ OwnA ρ σ b := fun b o e => (E.grow b o e).elim .inl fun q => q.elim (fun w => .inr (.inl w)) fun w => .inr (.inr (lock_own h w))
  have obj1 : ∀ (i : Nat) (d1 : D), ρ'[i]? = some (.own d1) → isObj d1 = true → (∃ d0, ρ[i]? = some (.own d0) ∧ isObj d0 = true) ∧ σ'[i]? = σ[i]? := fun i d1 hi ob => by
    obtain ⟨⟨d0, g1, g2⟩, g3⟩ := E.obj i d1 hi ob
    rcases set_get g1 with ⟨_, e⟩ | ⟨_, g1⟩
    · cases e
    · exact ⟨⟨d0, g1, g2⟩, g3⟩
  unfold unbor
  cases q : ρ'[j]? with
  | none =>
    refine ⟨S', ⟨fr, E.le, gr, base, E.kept, fun i d1 hi => ?_, obj1⟩, fun b hb => .inl hb⟩
    obtain ⟨g1, g2⟩ := E.bor i d1 hi
    rcases set_get g1 with ⟨rfl, _⟩ | ⟨_, g1⟩
    · rw [q] at hi; cases hi
    · exact ⟨g1, g2⟩
  | some s =>
    cases s with
    | bor d' =>
      obtain ⟨g1, g2⟩ := E.bor j d' q
      have hj : j < ρ.length := by
        rcases Nat.lt_or_ge j ρ.length with w | w
        · exact w
        · rw [List.getElem?_eq_none w] at h; cases h
      rw [List.getElem?_set_self hj] at g1
      obtain rfl : d = d' := by have := Option.some.inj g1; cases this; rfl
      rw [ea] at g2
      obtain ⟨b, eb, rb⟩ := S'.slot j _ q
      rw [g2] at eb; cases eb
      have za : Z' a = none := by
        cases w : Z' a with
        | none => rfl
        | some o =>
          rcases E.grow a o w with w | w | w
          · rw [z] at w; cases w
          · rw [hoa] at w; cases w
          · exact (lock_a S h ea w).elim
      have uo : ∀ b, OwnA (ρ'.set j (.own d)) σ' b → b = a ∨ OwnA ρ' σ' b := fun b ⟨i, d1, h1, h2⟩ => by
        rcases set_get h1 with ⟨rfl, _⟩ | ⟨_, h1⟩
        · rw [g2] at h2; cases h2; exact .inl rfl
        · exact .inr ⟨i, d1, h1, h2⟩
      have ub : ∀ b, BorA (ρ'.set j (.own d)) σ' b → ∃ i, i ≠ j ∧ ∃ d1, ρ'[i]? = some (.bor d1) ∧ σ'[i]? = some (some (.ref b)) := fun b ⟨i, d1, h1, h2⟩ => by
        rcases set_get h1 with ⟨_, e⟩ | ⟨n, h1⟩
        · cases e
        · exact ⟨i, fun z => n z.symm, d1, h1, h2⟩
      refine ⟨⟨by rw [List.length_set]; exact S'.len, S'.sub, fun i s hi => ?_, fun i k d1 d2 b h1 h2 h3 h4 => ?_, fun b hb hc => ?_⟩, ⟨fr, E.le, gr, fun b hb => ?_, E.kept, fun i d1 hi => ?_, fun i d1 hi ob => ?_⟩, fun b hb => ?_⟩
      · rcases set_get hi with ⟨rfl, rfl⟩ | ⟨_, hi⟩
        · exact ⟨a, g2, rb, za⟩
        · exact S'.slot i s hi
      · rcases set_get h1 with ⟨rfl, _⟩ | ⟨n1, h1⟩
        · rcases set_get h2 with ⟨e, _⟩ | ⟨n2, h2⟩
          · exact e
          · rw [g2] at h3; cases h3
            exact absurd ⟨k, d2, h2, h4⟩ noa
        · rcases set_get h2 with ⟨rfl, _⟩ | ⟨n2, h2⟩
          · rw [g2] at h4; cases h4
            exact absurd ⟨i, d1, h1, h3⟩ noa
          · exact S'.inj i k d1 d2 b h1 h2 h3 h4
      · obtain ⟨i, hij, d1, k1, k2⟩ := ub b hc
        rcases uo b hb with rfl | hb
        · obtain ⟨m1, m2⟩ := E.bor i d1 k1
          rcases set_get m1 with ⟨e, _⟩ | ⟨_, m1⟩
          · exact hij e.symm
          · exact S.sep b ⟨j, d, h, ea⟩ ⟨i, d1, m1, by rw [← m2]; exact k2⟩
        · exact S'.sep b hb ⟨i, d1, k1, k2⟩
      · rcases uo b hb with rfl | hb
        · exact .inl ⟨j, d, h, ea⟩
        · exact base b hb
      · rcases set_get hi with ⟨_, e⟩ | ⟨n, hi⟩
        · cases e
        · obtain ⟨m1, m2⟩ := E.bor i d1 hi
          rcases set_get m1 with ⟨e, _⟩ | ⟨_, m1⟩
          · exact absurd e n
          · exact ⟨m1, m2⟩
      · rcases set_get hi with ⟨_, e⟩ | ⟨n, hi⟩
        · cases e; exact absurd ob hno
        · exact obj1 i d1 hi ob
      · rcases uo b hb with rfl | hb
        · exact .inr ⟨⟨j, d, q, g2⟩, ⟨j, d, h, ea⟩⟩
        · exact .inl hb
    | _ =>
      refine ⟨S', ⟨fr, E.le, gr, base, E.kept, fun i d1 hi => ?_, obj1⟩, fun b hb => .inl hb⟩
      obtain ⟨g1, g2⟩ := E.bor i d1 hi
      rcases set_get g1 with ⟨rfl, _⟩ | ⟨_, g1⟩
      · rw [q] at hi; cases hi
      · exact ⟨g1, g2⟩
theorem bor_unbor {b : Addr} (h : BorA (unbor j ρ') σ' b) : BorA ρ' σ' b := by
  unfold unbor at h
  cases q : ρ'[j]? with
  | none => rw [q] at h; exact h
  | some s =>
    rw [q] at h
    cases s with
    | bor d => exact h.set_out fun _ z => by cases z
    | _ => exact h
theorem unbor_len : (unbor j ρ').length = ρ'.length := by
  unfold unbor
  split
  · rw [List.length_set]
  · rfl
end
section
variable {X : Cx} {e : Expr} {st : Stmt} {c : Mn Rv} {m : Mn Fl} {j : Nat}
theorem lockE {T : Tx} {ρ : En} {σ : L2.St} {H Z : Hp} {W : WX} {Q : VK} (S : SOk T ρ σ H Z) (p : Po kE T ρ σ H Z (cLock j c ρ) W Q) : ∃ ρ', SOk T ρ' σ H Z ∧ Po kE T ρ' σ H Z (c ρ') W Q := by
  unfold cLock at p
  cases q : ρ[j]? with
  | none => rw [q] at p; exact ⟨ρ, S, p⟩
  | some s =>
    cases s with
    | own d =>
      rw [q] at p
      simp only at p
      by_cases hno : isObj d = true
      · rw [if_pos hno] at p; exact ⟨ρ, S, p⟩
      rw [if_neg hno] at p
      refine ⟨_, S.lock q, ?_⟩
      cases o : c (ρ.set j (.bor d)) with
      | stuck => rw [o] at p; exact p
      | exc x ρ' =>
        rw [o] at p
        intro cls dd H' Z' S' E' x'
        obtain ⟨U1, U2, U3⟩ := unlock_step S q hno S' E'.step
        exact p cls dd H' Z' U1 ⟨U2, E'.same, by rw [unbor_len]; exact E'.len.trans (by rw [List.length_set]), fun b hb => (U3 b hb).elim (fun w => lock_own q (E'.ownE b w)) fun w => w.2⟩ x'
      | ok r ρ' =>
        rw [o] at p
        intro v H' Z' S' E' x'
        obtain ⟨U1, U2, U3⟩ := unlock_step S q hno S' E'.step
        refine p v H' Z' U1 ⟨U2, E'.same, by rw [unbor_len]; exact E'.len.trans (by rw [List.length_set]), fun b hb => (U3 b hb).elim (fun w => lock_own q (E'.ownE b w)) fun w => w.2⟩ ?_
        cases r with
        | val d => exact x'
        | bor d => exact x'
        | own d2 =>
          obtain ⟨a, e, r, z, n, n1, n2, n3⟩ := x'
          exact ⟨a, e, r, z, n.elim .inl fun w => .inr (lock_own q w), fun w => (U3 a w).elim n1 fun w => n2 w.1, fun w => n2 (bor_unbor w), n3⟩
    | _ => rw [q] at p; exact ⟨ρ, S, p⟩
theorem se_lock (h : SE X e c) : SE X e (cLock j c) := ⟨fun W tk => peI (h.run W tk) fun σ H Q ⟨ρ, Z, S, p⟩ => by
  obtain ⟨ρ', S', p'⟩ := lockE S p
  exact ⟨ρ', Z, S', p'⟩⟩
theorem lockS {T : Tx} {ρ : En} {σ : L2.St} {H Z : Hp} {W : WX} {Dn : Ends} (S : SOk T ρ σ H Z) (p : PoS T ρ σ H Z (cLock j m ρ) W Dn) : ∃ ρ', SOk T ρ' σ H Z ∧ PoS T ρ' σ H Z (m ρ') W Dn := by
  unfold cLock at p
  cases q : ρ[j]? with
  | none => rw [q] at p; exact ⟨ρ, S, p⟩
  | some s =>
    cases s with
    | own d =>
      rw [q] at p
      simp only at p
      by_cases hno : isObj d = true
      · rw [if_pos hno] at p; exact ⟨ρ, S, p⟩
      rw [if_neg hno] at p
      refine ⟨_, S.lock q, ?_⟩
      cases o : m (ρ.set j (.bor d)) with
      | stuck => rw [o] at p; exact p
      | exc x ρ' =>
        rw [o] at p
        intro cls dd σ' H' Z' S' E' x'
        obtain ⟨U1, U2, U3⟩ := unlock_step S q hno S' E'
        exact p cls dd σ' H' Z' U1 U2 x'
      | ok f ρ' =>
        rw [o] at p
        cases f with
        | nx =>
          intro σ' H' Z' S' E'
          obtain ⟨U1, U2, U3⟩ := unlock_step S q hno S' E'
          exact p σ' H' Z' U1 U2
        | brk =>
          intro σ' H' Z' S' E'
          obtain ⟨U1, U2, U3⟩ := unlock_step S q hno S' E'
          exact p σ' H' Z' U1 U2
        | cnt =>
          intro σ' H' Z' S' E'
          obtain ⟨U1, U2, U3⟩ := unlock_step S q hno S' E'
          exact p σ' H' Z' U1 U2
        | ret r =>
          intro v σ' H' Z' S' E' x'
          obtain ⟨U1, U2, U3⟩ := unlock_step S q hno S' E'
          refine p v σ' H' Z' U1 U2 ?_
          cases r with
          | val d => exact x'
          | bor d => exact x'
          | own d2 =>
            obtain ⟨a, e, r, z, n, n3⟩ := x'
            exact ⟨a, e, r, z, n.elim .inl (fun w => .inr (lock_own q w)), n3⟩
    | _ => rw [q] at p; exact ⟨ρ, S, p⟩
theorem ss_lock (h : SS X st m) : SS X st (cLock j m) := ⟨fun W tk => psI (h.run W tk) fun Dn σ H ⟨ρ, Z, S, p⟩ => by
  obtain ⟨ρ', S', p'⟩ := lockS S p
  exact ⟨ρ', Z, S', p'⟩⟩

/-! what is walked -/
theorem piI {tg iter : Expr} {t u : TI} (h : PI X tg iter t) (k : ∀ σ H R, u σ H R → t σ H R) : PI X tg iter u := ⟨fun pins s σ H R I q => h.run pins s σ H R I (k σ H R q)⟩
theorem PI.or {tg iter : Expr} {t u : TI} (h : PI X tg iter t) (h' : PI X tg iter u) : PI X tg iter (fun σ H R => t σ H R ∨ u σ H R) := ⟨fun pins s σ H R I q => q.elim (h.run pins s σ H R I) (h'.run pins s σ H R I)⟩
theorem src_lst {T : Tx} {ρ : En} {σ : L2.St} {H Z : Hp} {a : Addr} {vs : List V} {ds : List D} (hr : Rd H a (.lst vs)) (r : Reps T Z ds vs) (hn : ¬ OwnA ρ σ a) {G : Addr → Prop} (hg : G a) : Src T G ρ σ H Z (Itl T.K a) ds := by
  refine ⟨[a], fun b hb => ?_, fun H1 Z1 h1 h2 h3 => ?_⟩
  · obtain rfl : b = a := by simpa using hb
    exact ⟨hr.elim (fun e => ⟨_, e⟩) fun ⟨_, e⟩ => ⟨_, e⟩, hn, hg⟩
  · have e := h1 a (by simp)
    have hr1 : SqL T.K H1 a vs := .inl (hr.elim (fun q => .inl (e.trans q)) fun ⟨o, q⟩ => .inr ⟨o, e.trans q⟩)
    refine ⟨⟨vs, hr1, by rw [r.length]; exact Nat.le_refl _⟩, fun i d hd => ?_⟩
    obtain ⟨v, hv, rv⟩ := r.get hd
    refine ⟨⟨vs, v, hr1, hv⟩, fun x H2 ⟨e2, hx⟩ => ?_⟩
    subst e2
    have := hx vs hr1
    rw [hv] at this; cases this
    exact ⟨.refl _, Z1, .refl _, h3, fun _ _ q => .inl q, rv.mono h2⟩
theorem src_tup {T : Tx} {ρ : En} {σ : L2.St} {H Z : Hp} {a : Addr} {vs : List V} {ds : List D} (S : SOk T ρ σ H Z) (hr : SqT T.K Z a vs) (r : Reps T Z ds vs) {G : Addr → Prop} : Src T G ρ σ H Z (Itt T.K a) ds := by
  refine ⟨[], fun b hb => by simp at hb, fun H1 Z1 h1 h2 h3 => ?_⟩
  have hr1 : SqT T.K H1 a vs := h3.sqT (h2.sqT hr)
  refine ⟨⟨vs, hr1, by rw [r.length]; exact Nat.le_refl _⟩, fun i d hd => ?_⟩
  obtain ⟨v, hv, rv⟩ := r.get hd
  refine ⟨⟨vs, v, hr1, hv⟩, fun x H2 ⟨e2, hx⟩ => ?_⟩
  subst e2
  have := hx vs hr1
  rw [hv] at this; cases this
  exact ⟨.refl _, Z1, .refl _, h3, fun _ _ q => .inl q, rv.mono h2⟩
theorem src_rg {T : Tx} {ρ : En} {σ : L2.St} {H Z : Hp} {lo : Int} {n : Nat} {G : Addr → Prop} : Src T G ρ σ H Z (Itr lo n) (rgD lo n) := by
  refine ⟨[], fun b hb => by simp at hb, fun H1 Z1 h1 h2 h3 => ⟨by show n ≤ _; simp [rgD], fun i d hd => ?_⟩⟩
  have hi : i < n := by
    rcases Nat.lt_or_ge i n with w | w
    · exact w
    · rw [List.getElem?_eq_none (by simpa [rgD] using w)] at hd; cases hd
  have ed : d = .int (lo + i) := by
    have h2 : (rgD lo n)[i]? = some (.int (lo + i)) := by simp [rgD, hi]
    rw [h2] at hd; exact (Option.some.inj hd).symm
  refine ⟨hi, fun x H2 ⟨e2, ex⟩ => ?_⟩
  subst e2
  exact ⟨.refl _, Z1, .refl _, h3, fun _ _ q => .inl q, by rw [ed]; exact ex⟩
/-- a frozen list stands at no own address -/
theorem rep_notOwn {T : Tx} {ρ : En} {σ : L2.St} {H Z : Hp} {a : Addr} {u : HO} (S : SOk T ρ σ H Z) (h : Rd Z a u) : ¬ OwnA ρ σ a := fun q => by
  have z := (S.own q).1
  rcases h with h | ⟨o, h⟩ <;> rw [z] at h <;> cases h
theorem rd_some {Z : Hp} {a : Addr} {u : HO} (h : Rd Z a u) : ∃ o, Z a = some o := h.elim (fun e => ⟨_, e⟩) fun ⟨_, e⟩ => ⟨_, e⟩
theorem si_seq {tg iter : Expr} (h : SE X iter c) (hl : ∀ {wi : TE}, PE X iter wi → PI X tg iter (iList X.K wi) := by intro _ h; exact pi_list h) (ht : ∀ {wi : TE}, PE X iter wi → PI X tg iter (iTup X.K wi) := by intro _ h; exact pi_tup h) : SI X tg iter (ciSeq c) :=
  ⟨fun W tk => piI (PI.or (hl (h.run W tk)) (ht (h.run W tk))) fun σ H R ⟨ρ, Z, S, p⟩ => by
    unfold ciSeq CI.bnd at p
    cases q : c ρ with
    | stuck => rw [q] at p; exact p.elim
    | exc x ρ' => rw [q] at p; exact .inl ⟨ρ, Z, S, by rw [q]; exact p⟩
    | ok r ρ' =>
      rw [q] at p
      cases hs : seqR r with
      | none => simp only [hs] at p; exact p.elim
      | some ds =>
        simp only [hs] at p
        cases r with
        | bor d => cases hs
        | val d =>
          cases d with
          | lst xs =>
            cases hs
            refine .inl ⟨ρ, Z, S, ?_⟩
            rw [q]
            intro v H' Z' S' E' o'
            obtain ⟨a, vs, rfl, r1, r2⟩ := o'
            exact ⟨a, rfl, ⟨vs, .inl (S'.sub.rd r1)⟩, p _ H' Z' S' E' (src_lst (S'.sub.rd r1) r2 (rep_notOwn S' r1) (.inr (.inl (rd_some r1))))⟩
          | tup xs =>
            cases hs
            refine .inr ⟨ρ, Z, S, ?_⟩
            rw [q]
            intro v H' Z' S' E' o'
            obtain ⟨a, vs, rfl, r1, r2⟩ := o'
            exact ⟨a, rfl, ⟨vs, S'.sub.sqT r1⟩, p _ H' Z' S' E' (src_tup S' r1 r2)⟩
          | _ => cases hs
        | own d =>
          cases d with
          | lst xs =>
            cases hs
            refine .inl ⟨ρ, Z, S, ?_⟩
            rw [q]
            intro v H' Z' S' E' o'
            obtain ⟨a, rfl, ⟨vs, r1, r2⟩, z, n, n1, n2, _⟩ := o'
            exact ⟨a, rfl, ⟨vs, .of r1⟩, p _ H' Z' S' E' (src_lst (.inl r1) r2 n1 (.inl n))⟩
          | tup xs =>
            cases hs
            refine .inr ⟨ρ, Z, S, ?_⟩
            rw [q]
            intro v H' Z' S' E' o'
            obtain ⟨a, rfl, z, _⟩ := o'
            exact z.elim
          | _ => cases hs⟩
theorem si_var {tg : Expr} {i : Nat} {x : Str} {pos : Pos} (hN : X.N[i]? = some x) (hv : Vis X.env.scope x) (hd : (x == ("__debug__" : Str)) = false := by decide) (hcd : (x == ("__classdict__" : Str)) = false := by decide) : SI X tg (.Name x pos) (ciVar i) :=
  ⟨fun W tk => piI (PI.or (pi_list (pe_var hN hv hd hcd)) (pi_tup (pe_var hN hv hd hcd))) fun σ H R ⟨ρ, Z, S, p⟩ => by
    unfold ciVar at p
    cases q : ρ[i]? with
    | none => rw [q] at p; exact p.elim
    | some s =>
      have z := S.slot i s q
      rw [q] at p
      cases s with
      | emp => exact p.elim
      | exn _ => exact p.elim
      | own _ => exact p.elim
      | val d =>
        obtain ⟨v, ev, r⟩ := z
        cases d with
        | lst xs =>
          obtain ⟨a, vs, rfl, r1, r2⟩ := r
          exact .inl ⟨_, ev, a, rfl, ⟨vs, .inl (S.sub.rd r1)⟩, p _ H Z S (.refl _ _ _ _) (src_lst (S.sub.rd r1) r2 (rep_notOwn S r1) (.inr (.inl (rd_some r1))))⟩
        | tup xs =>
          obtain ⟨a, vs, rfl, r1, r2⟩ := r
          exact .inr ⟨_, ev, a, rfl, ⟨vs, S.sub.sqT r1⟩, p _ H Z S (.refl _ _ _ _) (src_tup S r1 r2)⟩
        | _ => exact p.elim
      | bor d =>
        obtain ⟨a, ev, r⟩ := z
        cases d with
        | lst xs =>
          obtain ⟨vs, r1, r2⟩ := r
          exact .inl ⟨_, ev, a, rfl, ⟨vs, .of r1⟩, p _ H Z S (.refl _ _ _ _) (src_lst (.inl r1) r2 (fun w => S.sep a w ⟨i, _, q, ev⟩) (.inr (.inr ⟨i, _, q, ev⟩)))⟩
        | tup xs => exact r.elim
        | _ => exact p.elim⟩
theorem arg_rd {T : Tx} {H Z : Hp} {v : V} {r : Rv} (h : ArgOk T H Z v r) : RdOk T H Z v r.d := by
  cases r with
  | val d => exact .inl h
  | own d => exact h.elim
  | bor d => obtain ⟨a, e, r⟩ := h; exact .inr ⟨a, e, r⟩
theorem si_rg1 {tg a : Expr} {p pos : Pos} (hg : Gl X "range") (hm : X.mg "range" = none) (ha : SE X a c) (hs : starEach [a] X.env = (false, eval a X.env) :: starEach [] X.env := by rfl)
    (hh : ∀ {t : TA}, X.mg "range" = none → PA X [a] t → PI X tg (.Call (.Name "range" p) [a] [] pos) (iRng1 t) := by intro _ hm h; exact pi_range1 rfl hm h) : SI X tg (.Call (.Name "range" p) [a] [] pos) (ciRg1 c) :=
  ⟨fun W tk => piI (hh hm ((sa_cons ha sa_nil hs).run W tk)) fun σ H R ⟨ρ, Z, S, p⟩ => ⟨ρ, Z, S, p.bnd (k1 := kA) fun rs vs ρ1 H1 Z1 S1 E1 o1 p1 => by
    match rs, vs, o1, p1 with
    | [r], [v], o1, p1 =>
      obtain ⟨ds, e, p2⟩ := Po.ofO p1
      have rd := arg_rd o1.1
      cases hd : r.d with
      | int n =>
        rw [hd] at e rd
        simp only [rg1] at e
        split at e
        · rename_i hr
          cases e
          simp only [inRg, Bool.and_eq_true, decide_eq_true_eq] at hr
          exact ⟨n, by rw [rd_int rd], hr.1, hr.2, p2 _ H1 Z1 S1 (.refl _ _ _ _) src_rg⟩
        · cases e
      | _ => rw [hd] at e; cases e
    | [], [], _, p1 => exact p1.elim
    | _ :: _ :: _, _, _, p1 => exact p1.elim⟩⟩
theorem si_rg2 {tg a b : Expr} {ca cb : Mn Rv} {p pos : Pos} (hg : Gl X "range") (hm : X.mg "range" = none) (ha : SE X a ca) (hb : SE X b cb) (hs : starEach [a, b] X.env = (false, eval a X.env) :: starEach [b] X.env := by rfl) (hs2 : starEach [b] X.env = (false, eval b X.env) :: starEach [] X.env := by rfl)
    (hh : ∀ {t : TA}, X.mg "range" = none → PA X [a, b] t → PI X tg (.Call (.Name "range" p) [a, b] [] pos) (iRng2 t) := by intro _ hm h; exact pi_range2 rfl hm h) : SI X tg (.Call (.Name "range" p) [a, b] [] pos) (ciRg2 ca cb) :=
  ⟨fun W tk => piI (hh hm ((sa_cons ha (sa_cons hb sa_nil hs2) hs).run W tk)) fun σ H R ⟨ρ, Z, S, p⟩ => ⟨ρ, Z, S, p.bnd (k1 := kA) fun rs vs ρ1 H1 Z1 S1 E1 o1 p1 => by
    match rs, vs, o1, p1 with
    | [r, q], [v, w], o1, p1 =>
      obtain ⟨ds, e, p2⟩ := Po.ofO p1
      have rd := arg_rd o1.1
      have rd2 := arg_rd o1.2.1
      cases hd : r.d with
      | int n =>
        cases hd2 : q.d with
        | int n2 =>
          rw [hd, hd2] at e
          rw [hd] at rd
          rw [hd2] at rd2
          simp only [rg2] at e
          split at e
          · rename_i hr
            cases e
            simp only [inRg, Bool.and_eq_true, decide_eq_true_eq] at hr
            exact ⟨n, n2, by rw [rd_int rd, rd_int rd2], ⟨hr.1.1, hr.1.2, hr.2.1, hr.2.2⟩, p2 _ H1 Z1 S1 (.refl _ _ _ _) src_rg⟩
          · cases e
        | _ => rw [hd, hd2] at e; cases e
      | _ => rw [hd] at e; cases e
    | [], [], _, p1 => exact p1.elim
    | [_], [_], _, p1 => exact p1.elim
    | _ :: _ :: _ :: _, _, _, p1 => exact p1.elim⟩⟩
end
end CI
end
section
set_option maxRecDepth 100000
/-! CIComp: list comprehensions. -/
namespace CI
open PySem L2 PyProof.Rows
/-! slots forgotten, put back -/
theorem wipe_get (σ : L2.St) (j : Nat) : ∀ vs : List Nat, (L2.wipe σ vs)[j]? = if j ∈ vs ∧ j < σ.length then some none else σ[j]?
  | [] => by simp [L2.wipe]
  | v :: vs => by
    unfold L2.wipe
    by_cases hv : v = j
    · subst hv
      by_cases hl : v < σ.length
      · rw [List.getElem?_set_self (by rw [L2.wipe_length]; exact hl)]; simp [hl]
      · rw [List.getElem?_eq_none (by rw [List.length_set, L2.wipe_length]; omega), if_neg (fun h => hl h.2), List.getElem?_eq_none (by omega)]
    · rw [List.getElem?_set_ne hv, wipe_get σ j vs]
      have hv' : j ≠ v := fun h => hv h.symm
      simp [hv']
theorem wipeE_len (ρ : En) : ∀ vs : List Nat, (wipeE ρ vs).length = ρ.length
  | [] => rfl
  | v :: vs => by unfold wipeE; rw [List.length_set, wipeE_len ρ vs]
theorem wipeE_get (ρ : En) (j : Nat) : ∀ vs : List Nat, (wipeE ρ vs)[j]? = if j ∈ vs ∧ j < ρ.length then some .emp else ρ[j]?
  | [] => by simp [wipeE]
  | v :: vs => by
    unfold wipeE
    by_cases hv : v = j
    · subst hv
      by_cases hl : v < ρ.length
      · rw [List.getElem?_set_self (by rw [wipeE_len]; exact hl)]; simp [hl]
      · rw [List.getElem?_eq_none (by rw [List.length_set, wipeE_len]; omega), if_neg (fun h => hl h.2), List.getElem?_eq_none (by omega)]
    · rw [List.getElem?_set_ne hv, wipeE_get ρ j vs]
      have hv' : j ≠ v := fun h => hv h.symm
      simp [hv']
theorem restE_len (ρ0 ρ : En) : ∀ vs : List Nat, (restE ρ0 ρ vs).length = ρ.length
  | [] => rfl
  | v :: vs => by
    unfold restE
    split
    · rw [List.length_set, restE_len ρ0 ρ vs]
    · exact restE_len ρ0 ρ vs
theorem restE_get (ρ0 ρ : En) (hl : ρ.length = ρ0.length) (j : Nat) : ∀ vs : List Nat, (restE ρ0 ρ vs)[j]? = if j ∈ vs then ρ0[j]? else ρ[j]?
  | [] => by simp [restE]
  | v :: vs => by
    unfold restE
    cases q : ρ0[v]? with
    | none =>
      simp only
      rw [restE_get ρ0 ρ hl j vs]
      by_cases hv : j = v
      · subst hv
        have h1 : ρ[j]? = none := by
          rw [List.getElem?_eq_none_iff] at q ⊢; omega
        simp [q, h1]
      · simp [hv]
    | some s =>
      simp only
      by_cases hv : v = j
      · subst hv
        have h1 : v < ρ.length := by
          rcases Nat.lt_or_ge v ρ0.length with w | w
          · omega
          · rw [List.getElem?_eq_none w] at q; cases q
        rw [List.getElem?_set_self (by rw [restE_len]; exact h1)]; simp [q]
      · rw [List.getElem?_set_ne hv, restE_get ρ0 ρ hl j vs]
        have hv' : j ≠ v := fun h => hv h.symm
        simp [hv']
theorem wipe_eq {σ σ' : L2.St} {vs : List Nat} (hl : σ'.length = σ.length) (h : ∀ j, j ∉ vs → σ'[j]? = σ[j]?) : L2.wipe σ' vs = L2.wipe σ vs := by
  apply List.ext_getElem?
  intro j
  rw [wipe_get, wipe_get, hl]
  by_cases hj : j ∈ vs
  · by_cases hlt : j < σ.length
    · simp [hj, hlt]
    · rw [if_neg (fun w => hlt w.2), if_neg (fun w => hlt w.2), List.getElem?_eq_none (by omega), List.getElem?_eq_none (by omega)]
  · simp [hj, h j hj]
theorem wipe_wipe (σ : L2.St) (vs : List Nat) : L2.wipe (L2.wipe σ vs) vs = L2.wipe σ vs := wipe_eq (L2.wipe_length σ vs) fun j hj => by rw [wipe_get]; simp [hj]
section
variable {T : Tx} {ρ ρ' : En} {σ σ' : L2.St} {H H' Z Z' : Hp} {vs : List Nat} {a : Addr}
theorem wipe_ownA (h : OwnA (wipeE ρ vs) (L2.wipe σ vs) a) : OwnA ρ σ a := by
  obtain ⟨j, d, h1, h2⟩ := h
  rw [wipeE_get] at h1
  split at h1
  · cases h1
  · rename_i hn
    rw [wipe_get] at h2
    split at h2
    · cases h2
    · exact ⟨j, d, h1, h2⟩
theorem wipe_borA (h : BorA (wipeE ρ vs) (L2.wipe σ vs) a) : BorA ρ σ a := by
  obtain ⟨j, d, h1, h2⟩ := h
  rw [wipeE_get] at h1
  split at h1
  · cases h1
  · rename_i hn
    rw [wipe_get] at h2
    split at h2
    · cases h2
    · exact ⟨j, d, h1, h2⟩
theorem SOk.wipe (S : SOk T ρ σ H Z) (vs : List Nat) : SOk T (wipeE ρ vs) (L2.wipe σ vs) H Z := by
  refine ⟨by rw [wipeE_len, L2.wipe_length]; exact S.len, S.sub, fun i s h => ?_, fun i j d d' b h1 h2 h3 h4 => ?_, fun b hb hc => S.sep b (wipe_ownA hb) (wipe_borA hc)⟩
  · rw [wipeE_get] at h
    split at h
    · cases h; trivial
    · rename_i hn
      rw [wipe_get, ← S.len, if_neg hn]
      exact S.slot i s h
  · rw [wipeE_get] at h1 h2
    split at h1
    · cases h1
    · split at h2
      · cases h2
      · rw [wipe_get] at h3 h4
        split at h3
        · cases h3
        · split at h4
          · cases h4
          · exact S.inj i j d d' b h1 h2 h3 h4
/-- an object that no slot holds and that is not frozen changes -/
theorem SOk.other (S : SOk T ρ σ H Z) {o : HO} (z : Z a = none) (n1 : ¬ OwnA ρ σ a) (n2 : ¬ BorA ρ σ a) : SOk T ρ σ (upd H a o) Z := by
  refine ⟨S.len, fun b u e => ?_, fun i s h => ?_, S.inj, S.sep⟩
  · have hb : b ≠ a := fun w => by rw [w, z] at e; cases e
    rw [upd_ne hb]; exact S.sub b u e
  · have q := S.slot i s h
    cases s with
    | emp => trivial
    | exn x => exact q
    | val d => exact q
    | own d =>
      obtain ⟨b, e, r, zb⟩ := q
      have hb : b ≠ a := fun w => n1 (w ▸ ⟨i, d, h, e⟩)
      exact ⟨b, e, r.mono (upd_ne hb) (.refl _), zb⟩
    | bor d =>
      obtain ⟨b, e, r⟩ := q
      have hb : b ≠ a := fun w => n2 (w ▸ ⟨i, d, h, e⟩)
      exact ⟨b, e, r.mono (upd_ne hb) (.refl _)⟩
end
/-! targets of names -/
mutual
def gTn (K : PySem.W.Frag) : Tn → TG
  | .nm i => gName i
  | .tup ts => gTup K ts.length (gTns K ts)
def gTns (K : PySem.W.Frag) : List Tn → TGs
  | [] => gNil
  | t :: ts => gCons (gTn K t) (gTns K ts)
end
theorem setTns_len : ∀ {ts : List Tn} {ds : List D} {ρ ρ' : En}, setTns ts ds ρ = some ρ' → ds.length = ts.length
  | [], [], _, _, _ => rfl
  | t :: ts, d :: ds, ρ, ρ', e => by
    unfold setTns at e
    cases e1 : setTn t d ρ with
    | none => rw [e1] at e; cases e
    | some ρ1 => rw [e1] at e; rw [List.length_cons, List.length_cons, setTns_len (ρ := ρ1) e]
  | [], _ :: _, _, _, e => by cases e
  | _ :: _, [], _, _, e => by cases e
/-- σ' is σ but at these slots -/
def But (σ σ' : L2.St) (ix : List Nat) : Prop := σ'.length = σ.length ∧ ∀ j, j ∉ ix → σ'[j]? = σ[j]?
mutual
theorem setTn_ok {T : Tx} : ∀ {t : Tn} {d : D} {ρ ρ' : En} {σ : L2.St} {H Z : Hp} {v : V} {Q : L2.St → Hp → Prop}, setTn t d ρ = some ρ' → SOk T ρ σ H Z → Rep T Z d v → (∀ σ', SOk T ρ' σ' H Z → Step ρ σ H Z ρ' σ' H Z → But σ σ' t.ix → (∀ a, OwnA ρ' σ' a → OwnA ρ σ a) → Q σ' H) → gTn T.K t v σ H Q
  | .nm i, d, ρ, ρ', σ, H, Z, v, Q, e, S, r, k => by
    cases e
    exact k _ (S.store (fun _ z => by cases z) ⟨v, rfl, r⟩ fun _ _ z => by cases z) (.store (T := T) (fun _ z => by cases z) fun _ z => by cases z) ⟨by rw [List.length_set], fun j hj => by rw [List.getElem?_set_ne]; intro h; exact hj (by subst h; simp [Tn.ix])⟩ fun a h => (own_set h).elim (fun ⟨_, z, _⟩ => by cases z) id
  | .tup ts, .tup ds, ρ, ρ', σ, H, Z, v, Q, e, S, ⟨a, vs, ev, q, r⟩, k => by
    have e' : setTns ts ds ρ = some ρ' := e
    exact ⟨a, vs, ev, S.sub.sqT q, by rw [← r.length]; exact setTns_len e', setTns_ok e' S r k⟩
  | .tup _, .non, _, _, _, _, _, _, _, e, _, _, _ => by cases e
  | .tup _, .bl _, _, _, _, _, _, _, _, e, _, _, _ => by cases e
  | .tup _, .int _, _, _, _, _, _, _, _, e, _, _, _ => by cases e
  | .tup _, .str _, _, _, _, _, _, _, _, e, _, _, _ => by cases e
  | .tup _, .lst _, _, _, _, _, _, _, _, e, _, _, _ => by cases e
  | .tup _, .dic _, _, _, _, _, _, _, _, e, _, _, _ => by cases e
  | .tup _, .obj _ _, _, _, _, _, _, _, _, e, _, _, _ => by cases e
  | .tup _, .glo _, _, _, _, _, _, _, _, e, _, _, _ => by cases e
theorem setTns_ok {T : Tx} : ∀ {ts : List Tn} {ds : List D} {ρ ρ' : En} {σ : L2.St} {H Z : Hp} {vs : List V} {Q : L2.St → Hp → Prop}, setTns ts ds ρ = some ρ' → SOk T ρ σ H Z → Reps T Z ds vs → (∀ σ', SOk T ρ' σ' H Z → Step ρ σ H Z ρ' σ' H Z → But σ σ' (Tn.ixs ts) → (∀ a, OwnA ρ' σ' a → OwnA ρ σ a) → Q σ' H) → gTns T.K ts vs σ H Q
  | [], [], ρ, ρ', σ, H, Z, vs, Q, e, S, r, k => by
    cases e
    exact ⟨r, k σ S (.refl _ _ _ _) ⟨rfl, fun _ _ => rfl⟩ fun _ h => h⟩
  | t :: ts, d :: ds, ρ, ρ', σ, H, Z, vs, Q, e, S, ⟨v, r, ev, q1, q2⟩, k => by
    unfold setTns at e
    cases e1 : setTn t d ρ with
    | none => rw [e1] at e; cases e
    | some ρ1 =>
      rw [e1] at e
      have e2 : setTns ts ds ρ1 = some ρ' := e
      exact ⟨v, r, ev, setTn_ok e1 S q1 fun σ1 S1 E1 b1 o1 => setTns_ok e2 S1 q2 fun σ2 S2 E2 b2 o2 => k σ2 S2 (E1.trans E2) ⟨b2.1.trans b1.1, fun j hj => by
        have hj' : j ∉ t.ix ∧ j ∉ Tn.ixs ts := by simpa [Tn.ixs] using hj
        exact (b2.2 j hj'.2).trans (b1.2 j hj'.1)⟩ fun a h => o1 a (o2 a h)⟩
  | [], _ :: _, _, _, _, _, _, _, _, e, _, _, _ => by cases e
  | _ :: _, [], _, _, _, _, _, _, _, e, _, _, _ => by cases e
end
structure SN (X : Cx) (e : Expr) (t : Tn) : Prop where
  run : PG X e (gTn X.K t)
structure SNs (X : Cx) (es : List Expr) (ts : List Tn) : Prop where
  run : PGs X es (gTns X.K ts)
structure SC (X : Cx) (ifs : List Expr) (c : Mn Bool) : Prop where
  run : ∀ W, Takes X W → PTs X ifs (tK kB (tx X) W c)
section
variable {X : Cx} {e : Expr} {c : Mn Rv} {ta : Mn Bool} {pos : Pos} {i : Nat} {x : Str}
theorem sn_nm (hN : X.N.Nodup) (hi : X.N[i]? = some x) (hx : Loc X.env.scope x) (hf : X.fn x = true ∨ X.env.scope.names.lookup x = some .local := by first | exact .inl rfl | exact .inr rfl | assumption) : SN X (.Name x pos) (.nm i) := ⟨pg_name hN hi hx hf⟩
theorem sns_nil : SNs X [] [] := ⟨pgs_nil⟩
theorem sns_cons {es : List Expr} {t : Tn} {ts : List Tn} (h1 : SN X e t) (h2 : SNs X es ts) (hs : (assignEach (e :: es) X.env).map (·.2) = assign e X.env :: (assignEach es X.env).map (·.2) := by rfl) : SNs X (e :: es) (t :: ts) := ⟨pgs_cons h1.run h2.run hs⟩
theorem sn_tup {es : List Expr} {k : Nat} {ts : List Tn} (hc : X.calm = true) (h : SNs X es ts) (hn : (assignEach es X.env).length = ts.length := by rfl) (hst : (assignEach es X.env).findIdx? (·.1) = none := by rfl) : SN X (.Tuple es k pos) (.tup ts) := ⟨pg_tup hc h.run hn hst⟩
theorem ptsI {ifs : List Expr} {t u : TT} (h : PTs X ifs t) (k : ∀ σ H Q, u σ H Q → t σ H Q) : PTs X ifs u := ⟨fun pins s σ H Q I q => h.run pins s σ H Q I (k σ H Q q)⟩
theorem sc_nil : SC X [] cYes := ⟨fun W tk => ptsI pts_nil (tE_of fun ρ σ H Z Q S p => Po.out (k := kB) p S rfl)⟩
theorem sc_one (h : STt X e ta) : SC X [e] ta := ⟨fun W tk => pts_one (h.run W tk)⟩
/-- no exception is wished for -/
abbrev WF : WX := fun _ _ _ _ => False
theorem okOwn_ok {ρ : En} {vs : List Nat} (h : okOwn ρ vs = true) {j : Nat} (hj : j ∈ vs) : (∀ d, ρ[j]? ≠ some (.own d)) ∧ ∀ d, ρ[j]? ≠ some (.bor d) := by
  have q := List.all_eq_true.mp h j hj
  constructor
  · intro d e; simp [e] at q
  · intro d e; simp [e] at q
/-- what holds between two turns: D the new list -/
structure LcInv (T : Tx) (ρ0 : En) (σ : L2.St) (vs : List Nat) (H1 Z1 : Hp) (Dp : Addr) (acc : List D) (ρ : En) (H Z : Hp) : Prop where
  S : SOk T ρ (L2.wipe σ vs) H Z
  new : H1 Dp = none
  vals : ∃ ws, H Dp = some (.lst ws) ∧ Reps T Z acc ws
  zD : Z Dp = none
  same : Le H1 H
  le : Le Z1 Z
  grow : ∀ a o, Z a = some o → Z1 a = some o ∨ H1 a = none ∨ OwnA ρ0 σ a
  own : ∀ a, OwnA ρ (L2.wipe σ vs) a → OwnA ρ0 σ a
  bor : ∀ (j : Nat) (d : D), ρ[j]? = some (.bor d) → ρ0[j]? = some (.bor d)
  obj : ∀ (j : Nat) (d : D), ρ[j]? = some (.own d) → isObj d = true → ∃ d0, ρ0[j]? = some (.own d0) ∧ isObj d0 = true
  len : ρ.length = ρ0.length
theorem LcInv.notOwn {T : Tx} {ρ0 ρ : En} {σ : L2.St} {vs : List Nat} {H1 Z1 H Z : Hp} {Dp : Addr} {acc : List D} (L : LcInv T ρ0 σ vs H1 Z1 Dp acc ρ H Z) (S0 : SOk T ρ0 σ H1 Z1) : ¬ OwnA ρ (L2.wipe σ vs) Dp := fun q => S0.notOwn L.new (L.own _ q)
theorem LcInv.notBor {T : Tx} {ρ0 ρ : En} {σ : L2.St} {vs : List Nat} {H1 Z1 H Z : Hp} {Dp : Addr} {acc : List D} (L : LcInv T ρ0 σ vs H1 Z1 Dp acc ρ H Z) (S0 : SOk T ρ0 σ H1 Z1) : ¬ BorA ρ (L2.wipe σ vs) Dp := fun ⟨j, d, h1, h2⟩ => S0.notBor L.new ⟨j, d, L.bor j d h1, by
  rw [wipe_get] at h2
  split at h2
  · cases h2
  · exact h2⟩
theorem lc_ok {W : WX} {t : Tn} {vs : List Nat} {elt : Mn Rv} {ds : List D} {J : It} {ρ : En} {σ : L2.St} {H Z : Hp} {Q : VK} (S : SOk (tx X) ρ σ H Z) {G : Addr → Prop} (hs : Src (tx X) G ρ σ H Z J ds)
    (p : Po kE (tx X) ρ σ H Z ((if okOwn ρ vs && t.ix.all (fun i => vs.contains i) then (match lcL t ta elt vs ds [] (wipeE ρ vs) with
      | some q => .ok (.own (.lst q.1)) (restE ρ q.2 vs)
      | none => .stuck) else .stuck : Out Rv)) W Q) (Dp : Addr) (hD : H Dp = none) :
    ∃ Wi : Nat → Nat → Hp → Prop, (∃ m, Wi 0 m (upd H Dp (.lst []))) ∧ ∀ i m H, Wi i m H → (J.stop i H ∧ Q (.ref Dp) H) ∨ (J.go i H ∧ ∃ Nx : Hp → Prop, (∀ H', Nx H' → ∃ m', m' < m ∧ Wi (i + 1) m' H') ∧
      ∀ x H', J.yld i H x H' → gTn X.K t x (L2.wipe σ vs) H' fun σ2 H2 => L2.wipe σ2 vs = L2.wipe σ vs ∧ tK kB (tx X) WF ta σ2 H2 fun b H3 =>
        if b = true then tK kD (tx X) WF (cV elt) σ2 H3 fun y H4 => ∃ acc, H4 Dp = some (.lst acc) ∧ acc.length < sizeLine ∧ Nx (upd H4 Dp (.lst (acc ++ [y]))) else Nx H3) := by
  by_cases hok : (okOwn ρ vs && t.ix.all (fun i => vs.contains i)) = true
  · rw [if_pos hok] at p
    rw [Bool.and_eq_true] at hok
    obtain ⟨ho, hix⟩ := hok
    have hix : ∀ j ∈ t.ix, j ∈ vs := fun j hj => by simpa using List.all_eq_true.mp hix j hj
    cases hq : lcL t ta elt vs ds [] (wipeE ρ vs) with
    | none => rw [hq] at p; exact p.elim
    | some fin =>
      rw [hq] at p
      refine ⟨fun i m H' => m = ds.length - i ∧ i ≤ ds.length ∧ ∃ acc ρ' Z', LcInv (tx X) ρ σ vs H Z Dp acc ρ' H' Z' ∧ lcL t ta elt vs (ds.drop i) acc ρ' = some fin, ⟨_, rfl, Nat.zero_le _, [], wipeE ρ vs, Z, ?_, by rw [List.drop_zero]; exact hq⟩, ?_⟩
      · exact ⟨(S.wipe vs).new hD, hD, ⟨[], upd_same, rfl⟩, S.zfree hD, upd_le hD, .refl _, fun a o e => .inl e, fun a h => wipe_ownA h, fun j d h => by
          rw [wipeE_get] at h
          split at h
          · cases h
          · exact h, fun j d h ob => by
          rw [wipeE_get] at h
          split at h
          · cases h
          · exact ⟨d, h, ob⟩, wipeE_len ρ vs⟩
      · rintro i m H' ⟨rfl, hi, acc, ρ', Z', L, hl⟩
        -- the source stands
        obtain ⟨P, hP, src⟩ := id hs
        have hsrc := src H' Z' (fun a ha => by
          obtain ⟨⟨o, ho⟩, _⟩ := hP a ha
          rw [L.same a o ho, ho]) L.le L.S.sub
        obtain ⟨hstop, hgo⟩ := hsrc
        rcases Nat.lt_or_ge i ds.length with hlt | hge
        · have hd : ds[i]? = some ds[i] := List.getElem?_eq_getElem hlt
          obtain ⟨g, y⟩ := hgo i _ hd
          refine .inr ⟨g, fun H2 => ds.length - (i + 1) = ds.length - (i + 1) ∧ i + 1 ≤ ds.length ∧ ∃ acc ρ' Z', LcInv (tx X) ρ σ vs H Z Dp acc ρ' H2 Z' ∧ lcL t ta elt vs (ds.drop (i + 1)) acc ρ' = some fin, fun H2 h => ⟨_, by omega, h⟩, fun x H2 yx => ?_⟩
          obtain ⟨l1, Z2, l2, l3, l4, r⟩ := y x H2 yx
          have S2 := L.S.growN l1 l2 l3 l4
          have noD := L.notOwn S
          have nbD := L.notBor S
          obtain ⟨ws, hws, rws⟩ := L.vals
          rw [drop_cons hd] at hl
          unfold lcL at hl
          cases ht : setTn t ds[i] ρ' with
          | none => rw [ht] at hl; cases hl
          | some ρ3 =>
            rw [ht] at hl
            refine setTn_ok ht S2 r fun σ3 S3 E3 b3 o3 => ?_
            have ew : L2.wipe σ3 vs = L2.wipe σ vs := by
              rw [wipe_eq b3.1 fun j hj => b3.2 j fun w => hj (hix j w), wipe_wipe]
            have hl' : ((lcTurn ta elt ρ3).bind fun q => match q.1 with
              | none => lcL t ta elt vs (ds.drop (i + 1)) acc (wipeE q.2 vs)
              | some y => if acc.length < sizeLine then lcL t ta elt vs (ds.drop (i + 1)) (acc ++ [y]) (wipeE q.2 vs) else none) = some fin := hl
            have E03 : Step ρ' (L2.wipe σ vs) H' Z' ρ3 σ3 H2 Z2 := (step_grow l1 l2 l4).trans E3
            -- what a turn's end asks, the list not yet longer
            have ends : ∀ (ρ4 : En) (H4 Z4 : Hp), SOk (tx X) ρ4 σ3 H4 Z4 → EStep ρ3 σ3 H2 Z2 ρ4 H4 Z4 → LcInv (tx X) ρ σ vs H Z Dp acc (wipeE ρ4 vs) H4 Z4 := fun ρ4 H4 Z4 S4 E4 => by
              have S5 := S4.wipe vs
              rw [ew] at S5
              have E04 : Step ρ' (L2.wipe σ vs) H' Z' ρ4 σ3 H4 Z4 := E03.trans E4.step
              have le4 : Le H' H4 := l1.trans E4.same
              refine ⟨S5, L.new, ⟨ws, le4 _ _ hws, rws.mono E04.le⟩, ?_, L.same.trans le4, L.le.trans E04.le, fun a o e => ?_, fun a q => ?_, fun j d q => ?_, fun j d q ob => ?_, ?_⟩
              · cases w : Z4 Dp with
                | none => rfl
                | some o =>
                  rcases E04.grow Dp o w with v | v | v
                  · rw [L.zD] at v; cases v
                  · rw [hws] at v; cases v
                  · exact (noD v).elim
              · rcases E04.grow a o e with v | v | v
                · exact L.grow a o v
                · refine .inr (.inl ?_)
                  cases hh : H a with
                  | none => rfl
                  | some o' => rw [L.same a o' hh] at v; cases v
                · exact .inr (.inr (L.own a v))
              · have q' : OwnA (wipeE ρ4 vs) (L2.wipe σ3 vs) a := by rw [ew]; exact q
                exact L.own a (o3 a (E4.ownE a (wipe_ownA q')))
              · rw [wipeE_get] at q
                split at q
                · cases q
                · exact L.bor j d (E04.bor j d q).1
              · rw [wipeE_get] at q
                split at q
                · cases q
                · obtain ⟨⟨d0, g1, g2⟩, _⟩ := E04.obj j d q ob
                  exact L.obj j d0 g1 g2
              · rw [wipeE_len, E4.len]
                have h1 := S3.len
                rw [b3.1, L2.wipe_length] at h1
                rw [h1, S.len]
            unfold lcTurn at hl'
            refine ⟨ew, ρ3, Z2, S3, ?_⟩
            cases hc : ta ρ3 with
            | stuck => rw [hc] at hl'; cases hl'
            | exc x ρ4 => rw [hc] at hl'; cases hl'
            | ok b ρ4 =>
              rw [hc] at hl'
              intro b' H4 Z4 S4 E4 eb
              obtain rfl : b' = b := eb
              cases b' with
              | false => exact ⟨rfl, hlt, acc, wipeE ρ4 vs, Z4, ends ρ4 H4 Z4 S4 E4, hl'⟩
              | true =>
                simp only at hl'
                refine ⟨ρ4, Z4, S4, ?_⟩
                cases he : cV elt ρ4 with
                | stuck => rw [he] at hl'; cases hl'
                | exc x ρ5 => rw [he] at hl'; cases hl'
                | ok y ρ5 =>
                  rw [he] at hl'
                  intro v H5 Z5 S5 E5 ry
                  have L5 := ends ρ5 H5 Z5 S5 (E4.trans E5)
                  obtain ⟨ws5, hws5, rws5⟩ := L5.vals
                  have hl2 : (if acc.length < sizeLine then lcL t ta elt vs (ds.drop (i + 1)) (acc ++ [y]) (wipeE ρ5 vs) else none) = some fin := hl'
                  by_cases hz : acc.length < sizeLine
                  · rw [if_pos hz] at hl2
                    refine ⟨ws5, hws5, by rw [← rws5.length]; exact hz, rfl, hlt, acc ++ [y], wipeE ρ5 vs, Z5, ?_, hl2⟩
                    exact ⟨L5.S.other L5.zD (L5.notOwn S) (L5.notBor S), L5.new, ⟨_, upd_same, rws5.append (.single ry)⟩, L5.zD, fun a o e => by
                      have ha : a ≠ Dp := fun w => by rw [w, hD] at e; cases e
                      rw [upd_ne ha]; exact L5.same a o e, L5.le, L5.grow, L5.own, L5.bor, L5.obj, L5.len⟩
                  · rw [if_neg hz] at hl2; cases hl2
        · have e : i = ds.length := by omega
          subst e
          rw [List.drop_length] at hl
          unfold lcL at hl
          cases hl
          refine .inl ⟨hstop, ?_⟩
          obtain ⟨ws, hws, rws⟩ := L.vals
          have gl : ρ'.length = ρ.length := L.len
          have hown : ∀ a, OwnA (restE ρ ρ' vs) σ a → OwnA ρ' (L2.wipe σ vs) a := fun a ⟨j, d, h1, h2⟩ => by
            rw [restE_get ρ ρ' gl] at h1
            split at h1
            · rename_i hj; exact absurd h1 ((okOwn_ok ho hj).1 d)
            · rename_i hj; exact ⟨j, d, h1, by rw [wipe_get, if_neg (fun w => hj w.1)]; exact h2⟩
          have hbor : ∀ a, BorA (restE ρ ρ' vs) σ a → BorA ρ' (L2.wipe σ vs) a := fun a ⟨j, d, h1, h2⟩ => by
            rw [restE_get ρ ρ' gl] at h1
            split at h1
            · rename_i hj; exact absurd h1 ((okOwn_ok ho hj).2 d)
            · rename_i hj; exact ⟨j, d, h1, by rw [wipe_get, if_neg (fun w => hj w.1)]; exact h2⟩
          have Sr : SOk (tx X) (restE ρ ρ' vs) σ H' Z' := by
            refine ⟨by rw [restE_len, gl]; exact S.len, L.S.sub, fun j s h => ?_, fun j k d d' a h1 h2 h3 h4 => ?_, fun a h1 h2 => L.S.sep a (hown a h1) (hbor a h2)⟩
            · rw [restE_get ρ ρ' gl] at h
              split at h
              · rename_i hj
                have z := S.slot j s h
                cases s with
                | emp => trivial
                | exn _ => exact XSl.mono z L.le
                | val d => obtain ⟨v, e, r⟩ := z; exact ⟨v, e, r.mono L.le⟩
                | own d => exact absurd h ((okOwn_ok ho hj).1 d)
                | bor d => exact absurd h ((okOwn_ok ho hj).2 d)
              · rename_i hj
                have z := L.S.slot j s h
                rw [wipe_get, if_neg (fun w => hj w.1)] at z
                exact z
            · rw [restE_get ρ ρ' gl] at h1 h2
              split at h1
              · rename_i hj; exact absurd h1 ((okOwn_ok ho hj).1 d)
              · rename_i hj
                split at h2
                · rename_i hk; exact absurd h2 ((okOwn_ok ho hk).1 d')
                · rename_i hk
                  exact L.S.inj j k d d' a h1 h2 (by rw [wipe_get, if_neg (fun w => hj w.1)]; exact h3) (by rw [wipe_get, if_neg (fun w => hk w.1)]; exact h4)
          refine p (.ref Dp) H' Z' Sr ⟨⟨fun a o e _ => L.same a o e, L.le, L.grow, fun a h => .inl (L.own a (hown a h)), fun a ⟨o, e⟩ => ⟨o, L.same a o e⟩, fun j d h => ⟨?_, rfl⟩, fun j d h ob => ?_⟩, L.same, by rw [restE_len, gl], fun a h => L.own a (hown a h)⟩
            ⟨Dp, rfl, ⟨ws, hws, rws⟩, L.zD, .inl hD, fun h => L.notOwn S (hown _ h), fun h => L.notBor S (hbor _ h), rfl⟩
          · rw [restE_get ρ ρ' gl] at h
            split at h
            · rename_i hj; exact absurd h ((okOwn_ok ho hj).2 d)
            · exact L.bor j d h
          · rw [restE_get ρ ρ' gl] at h
            split at h
            · rename_i hj; exact absurd h ((okOwn_ok ho hj).1 d)
            · exact ⟨L.obj j d h ob, rfl⟩
  · rw [if_neg hok] at p; exact p.elim
theorem lc_read {W : WX} {wi : TI} {t : Tn} {vs : List Nat} {elt : Mn Rv} {ci : Mn (List D)} (hi : ∀ σ H R, tK (kI (tx X) σ) (tx X) W ci σ H R → wi σ H R) : ∀ σ H Q, tK kE (tx X) W (cLc ci t ta elt vs) σ H Q →
    L2.tLc wi (gTn X.K t) (tK kB (tx X) WF ta) (tK kD (tx X) WF (cV elt)) vs σ H Q := fun σ H Q ⟨ρ, Z, S, p⟩ => by
  refine hi σ H _ ⟨ρ, Z, S, p.bnd (k1 := kI (tx X) σ) fun ds J ρ1 H1 Z1 S1 E1 o1 p1 => ?_⟩
  intro Dp hD
  exact lc_ok S1 o1 p1 Dp hD
theorem blk_pts {ifs : List Expr} {s : Shared} {H : Hp} {scope : Scope} {cenv : Env} {fp : List Addr} (hc : X.calm = true) (h : SC (X.blk s H scope cenv fp) ifs ta) : PTs (X.blk s H scope cenv fp) ifs (tK kB (tx X) WF ta) := by
  have h := h.run WF takes0
  rw [tx_calm (X := X.blk s H scope cenv fp) hc] at h
  rw [tx_calm hc]
  exact h
theorem blk_pe {elt : Expr} {ce : Mn Rv} {s : Shared} {H : Hp} {scope : Scope} {cenv : Env} {fp : List Addr} (hc : X.calm = true) (h : SE (X.blk s H scope cenv fp) elt ce) : PE (X.blk s H scope cenv fp) elt (tK kD (tx X) WF (cV ce)) := by
  have h := (sd_v h).run WF takes0
  rw [tx_calm (X := X.blk s H scope cenv fp) hc] at h
  rw [tx_calm hc]
  exact h
theorem se_lc {elt tg iter : Expr} {ifs : List Expr} {scope : Scope} {own : List (Str × Nat)} {ci : Mn (List D)} {t : Tn} {ce : Mn Rv} (hc : X.calm = true) (hN : X.N.Nodup) (hi : SI X tg iter ci) (ok : L2.BlkOk X.N X.env.scope scope own)
    (hg : ∀ (s : Shared) (H : Hp) (C : Addr) (cl : List (Str × Addr)) (fp : List Addr), SN (X.blk s H scope (compEnvC scope cl C X.env) fp) tg t) (ht : ∀ (s : Shared) (H : Hp) (C : Addr) (cl : List (Str × Addr)) (fp : List Addr), SC (X.blk s H scope (compEnvC scope cl C X.env) fp) ifs ta)
    (he : ∀ (s : Shared) (H : Hp) (C : Addr) (cl : List (Str × Addr)) (fp : List Addr), SE (X.blk s H scope (compEnvC scope cl C X.env) fp) elt ce) (hs : ∀ x, foldedSetIterable iter X.env x = pure x := by intro _; rfl) :
    SE X (.ListComp elt [⟨tg, iter, ifs, 0⟩] scope pos) (cLc ci t ta ce (own.map (·.2))) :=
  ⟨fun W tk => peI (L2.pe_lc hc hN (hi.run W tk) ok (fun s H C cl fp => (hg s H C cl fp).run) (fun s H C cl fp => blk_pts hc (ht s H C cl fp)) (fun s H C cl fp => blk_pe hc (he s H C cl fp)) hs) (lc_read fun _ _ _ h => h)⟩
theorem ss_setLc {y : Str} {py : Pos} {elt tg iter : Expr} {ifs : List Expr} {scope : Scope} {own : List (Str × Nat)} {spos : Pos} {ci : Mn (List D)} {t : Tn} {ce : Mn Rv} (hc : X.calm = true) (hN : X.N.Nodup) (hy : X.N[i]? = some y) (hyl : X.env.scope.names.lookup y = some .local)
    (hsw : swapsWith (.ListComp elt [⟨tg, iter, ifs, 0⟩] scope pos) (some (.Name y py)) spos.line X.env = pure true) (hi : SI X tg iter ci) (ok : L2.BlkOk X.N X.env.scope scope own)
    (hg : ∀ (s : Shared) (H : Hp) (C : Addr) (cl : List (Str × Addr)) (fp : List Addr), SN (X.blk s H scope (compEnvC scope cl C X.env) fp) tg t) (ht : ∀ (s : Shared) (H : Hp) (C : Addr) (cl : List (Str × Addr)) (fp : List Addr), SC (X.blk s H scope (compEnvC scope cl C X.env) fp) ifs ta)
    (he : ∀ (s : Shared) (H : Hp) (C : Addr) (cl : List (Str × Addr)) (fp : List Addr), SE (X.blk s H scope (compEnvC scope cl C X.env) fp) elt ce) (hs : ∀ x, foldedSetIterable iter X.env x = pure x := by intro _; rfl) :
    SS X (.Assign [.Name y py] (.ListComp elt [⟨tg, iter, ifs, 0⟩] scope pos) spos) (cSet i (cLc ci t ta ce (own.map (·.2)))) :=
  ⟨fun W tk => psI (L2.ps_setLc hc hN hy hyl hsw (hi.run W tk) ok (fun s H C cl fp => (hg s H C cl fp).run) (fun s H C cl fp => blk_pts hc (ht s H C cl fp)) (fun s H C cl fp => blk_pe hc (he s H C cl fp)) hs) fun Dn σ H h => by
    have h2 := set_ok (X := X) (hN := hN) Dn σ H h
    exact lc_read (fun _ _ _ h => h) σ H _ h2⟩
end
end CI
end
section
set_option maxRecDepth 100000
/-! CICall: defs, classes, fields, errors. -/
namespace CI
open PySem L2 PyProof.Rows
def CRes (T : Tx) (H H' Z' : Hp) (v : V) : Rv → Prop
  | .val d => Rep T Z' d v
  | .own d => ∃ a, v = .ref a ∧ OR T H' Z' a d ∧ Z' a = none ∧ H a = none ∧ isObj d = false
  | .bor _ => False
/-- behind a call: what stood stands -/
structure CStep (H Z H' Z' : Hp) : Prop where
  sub : Le Z' H'
  same : Le H H'
  le : Le Z Z'
  grow : ∀ a o, Z' a = some o → Z a = some o ∨ H a = none
def CPost (T : Tx) (H Z : Hp) (r : Res) (Q : VK) (E : XK) : Prop := match r with
  | .ok r => ∀ v H' Z', CStep H Z H' Z' → CRes T H H' Z' v r → Q v H'
  | .exc x => ∀ cls d H' Z', CStep H Z H' Z' → XOk T Z' x cls d → E cls d H'
  | .stuck => False
/-- the promise of a def by its plain meaning G; its last parameters may be given by defaults -/
def spF (T : Tx) (G : List Rv → Res) (n : Nat) : Sp := fun vs H Q E => ∃ Z rs, Le Z H ∧ ArgsOk T H Z vs rs ∧ vs.length = n ∧ CPost T H Z (G rs) Q E

section
variable {T : Tx} {ρ : En} {σ : L2.St} {H Z H' Z' : Hp}
theorem SOk.call (S : SOk T ρ σ H Z) (c : CStep H Z H' Z') : SOk T ρ σ H' Z' := S.growN c.same c.le c.sub c.grow
theorem EStep.call (c : CStep H Z H' Z') : EStep ρ σ H Z ρ H' Z' := ⟨step_grow c.same c.le c.grow, c.same, rfl, fun _ h => h⟩
theorem CRes.rv (S : SOk T ρ σ H Z) {v : V} {r : Rv} (h : CRes T H H' Z' v r) : RvOk T ρ σ H ρ H' Z' v r := by
  cases r with
  | val d => exact h
  | bor d => exact h.elim
  | own d => obtain ⟨a, e, r, z, n, n3⟩ := h; exact ⟨a, e, r, z, .inl n, S.notOwn n, S.notBor n, n3⟩
theorem cpost_of {W : WX} {Q : VK} {r : Res} (S : SOk T ρ σ H Z) (p : Po kE T ρ σ H Z (ofRes r ρ) W Q) : CPost T H Z r Q (WE W σ) := by
  cases r with
  | stuck => exact p
  | ok r => exact fun v H' Z' c q => p v H' Z' (S.call c) (.call c) (q.rv S)
  | exc x => exact fun cls d H' Z' c q => p cls d H' Z' (S.call c) (.call c) q
end
/-- where a body stands -/
structure Ev where
  prog : Program
  w : World
  K : PySem.W.Frag
  mg : Str → Option Value
  base : Heap
  A : Around
abbrev ev (X : Cx) : Ev := ⟨X.prog, X.w, X.K, X.mg, X.base, X.A⟩
/-- a name of the module may be called with n arguments: it means G -/
structure COk (X : Ev) (x : Str) (G : List Rv → Res) (n : Nat) : Prop where
  ex : ∃ (k : Nat) (f : Addr) (fd : FuncData) (ps : List Str) (ds : List Value) (dvs : List V) (dd : List D) (G' : List Rv → Res), X.mg x = some (.ref f) ∧ PySem.W.keepIn X.K (.ref f) = true ∧ Binds X.K fd ps ds ∧ Vals dvs ds ∧
    (∀ Z, Reps ⟨X.K, X.mg, none⟩ Z dd dvs) ∧ (∀ rs, G rs = G' (rs ++ dd.map Rv.val)) ∧ FnOk X.prog X.w X.K X.mg X.base (L2.CX X.prog X.w) k f fd ps (spF ⟨X.K, X.mg, none⟩ G' ps.length) ∧ n + dvs.length = ps.length ∧ Room k X.A
theorem ArgsOk.append {T : Tx} {H Z : Hp} {dd : List D} {dvs : List V} (h : Reps T Z dd dvs) : ∀ {vs : List V} {rs : List Rv}, ArgsOk T H Z vs rs → ArgsOk T H Z (vs ++ dvs) (rs ++ dd.map Rv.val)
  | [], [], _ => by
    have key : ∀ {dd : List D} {dvs : List V}, Reps T Z dd dvs → ArgsOk T H Z dvs (dd.map Rv.val) := fun {dd} => by
      induction dd with
      | nil => intro dvs r; rw [show dvs = [] from r]; trivial
      | cons d dd ih => intro dvs ⟨v, r, e, q, s⟩; rw [e]; exact ⟨q, ih s⟩
    exact key h
  | _ :: _, _ :: _, q => ⟨q.1, ArgsOk.append h q.2⟩
  | [], _ :: _, q => q.elim
  | _ :: _, [], q => q.elim
section
variable {X : Cx} {e : Expr} {es : List Expr} {cs : Mn (List Rv)} {p pos : Pos} {x : Str} {G : List Rv → Res}
theorem se_call (hc : X.calm = true) (C : COk (ev X) x G (es.length + 1)) (ha : SA X (e :: es) cs) (hg : Gl X x) (hdb : (x == ("__debug__" : Str)) = false := by decide) (he : starEach (e :: es) X.env = (false, eval e X.env) :: starEach es X.env := by rfl) (hpl : (backTo pos (starEach es X.env)).any (·.1) = false := by rfl)
    (hlen : ∀ ρ rs ρ', cs ρ = .ok rs ρ' → rs.length = es.length + 1) : SE X (.Call (.Name x p) (e :: es) [] pos) (cCallG G cs) := by
  obtain ⟨k, f, fd, ps, ds, dvs, dd, G', hm, hk, hb, hd, hdd, hG, FO, hn, hr⟩ := C.ex
  have ht := tx_calm hc
  have FO : FnOk X.prog X.w X.K X.mg X.base (L2.CX X.prog X.w) k f fd ps (spF (tx X) G' ps.length) := by rw [ht]; exact FO
  have hdd : ∀ Z, Reps (tx X) Z dd dvs := by rw [ht]; exact hdd
  refine ⟨fun W tk => peI (pe_callSD FO hr hg hm hk hb hd (fun σ => passAt tk σ) (ha.run W tk) hdb he hpl) (tE_of fun ρ σ H Z Q S p => ⟨ρ, Z, S, ?_⟩)⟩
  unfold cCallG CI.bnd at p
  cases q : cs ρ with
  | stuck => rw [q] at p; exact p
  | exc x ρ' => rw [q] at p; exact p
  | ok rs ρ' =>
    rw [q] at p
    intro vs H1 Z1 S1 E1 o1
    have p1 : Po kE (tx X) ρ' σ H1 Z1 (ofRes (G rs) ρ') W Q := Po.later p E1
    have hl : vs.length = es.length + 1 := by rw [ArgsOk.length o1]; exact hlen ρ rs ρ' q
    rw [hG rs] at p1
    exact ⟨Z1, rs ++ dd.map Rv.val, S1.sub, ArgsOk.append (hdd Z1) o1, by rw [List.length_append, hl]; exact hn, cpost_of S1 p1⟩
theorem len_nil : ∀ ρ rs ρ', (cNil : Mn (List Rv)) ρ = .ok rs ρ' → rs.length = 0 := fun ρ rs ρ' h => by cases h; rfl
theorem len_cons {a : Mn Rv} {r : Mn (List Rv)} {n : Nat} (h : ∀ ρ rs ρ', r ρ = .ok rs ρ' → rs.length = n) : ∀ ρ rs ρ', cCons a r ρ = .ok rs ρ' → rs.length = n + 1 := fun ρ rs ρ' e => by
  unfold cCons CI.bnd at e
  cases q : a ρ with
  | stuck => rw [q] at e; cases e
  | exc x ρ' => rw [q] at e; cases e
  | ok x ρ1 =>
    rw [q] at e
    simp only at e
    cases q2 : r ρ1 with
    | stuck => rw [q2] at e; cases e
    | exc x ρ' => rw [q2] at e; cases e
    | ok xs ρ2 =>
      rw [q2] at e
      cases e
      rw [List.length_cons, h _ _ _ q2]

/-! a def keeps its promise -/
theorem start_ok {T : Tx} {H Z : Hp} {N : List Str} {vs : List V} {rs : List Rv} {ns : Nat} (hs : Le Z H) (h : ArgsOk T H Z vs rs) (hl : vs.length ≤ N.length) (hn : N.length = ns) : SOk T (startE ns rs) (L2.start N vs) H Z ∧ ∀ a, ¬ OwnA (startE ns rs) (L2.start N vs) a := by
  have lr := h.length
  have noown : ∀ (i : Nat) (d : D), (startE ns rs)[i]? ≠ some (.own d) := fun i d e => by
    unfold startE at e
    rcases Nat.lt_or_ge i rs.length with w | w
    · rw [List.getElem?_append_left (by simpa using w), List.getElem?_map] at e
      cases q : rs[i]? with
      | none => rw [q] at e; cases e
      | some r => rw [q] at e; cases r <;> cases e
    · rw [List.getElem?_append_right (by simpa using w), List.getElem?_replicate] at e
      split at e <;> cases e
  have args : ∀ (vs : List V) (rs : List Rv), ArgsOk T H Z vs rs → ∀ (i : Nat) (r : Rv), rs[i]? = some r → ∃ v, vs[i]? = some v ∧ ArgOk T H Z v r := by
    intro vs
    induction vs with
    | nil =>
      intro rs h i r e
      cases rs with
      | nil => simp at e
      | cons _ _ => exact h.elim
    | cons v vs ih =>
      intro rs h i r e
      cases rs with
      | nil => exact h.elim
      | cons r' rs =>
        cases i with
        | zero => simp at e; subst e; exact ⟨v, by simp, h.1⟩
        | succ i => obtain ⟨u, h1, h2⟩ := ih rs h.2 i r (by simpa using e); exact ⟨u, by simpa using h1, h2⟩
  refine ⟨⟨?_, hs, fun i s e => ?_, fun i j d d' a h1 => absurd h1 (noown i d), fun a ⟨i, d, h1, _⟩ => absurd h1 (noown i d)⟩, fun a ⟨i, d, h1, _⟩ => noown i d h1⟩
  · unfold startE L2.start
    simp only [List.length_append, List.length_map, List.length_replicate]
    omega
  · unfold startE at e
    rcases Nat.lt_or_ge i rs.length with w | w
    · rw [List.getElem?_append_left (by simpa using w), List.getElem?_map] at e
      have hv : (L2.start N vs)[i]? = vs[i]?.map some := by
        unfold L2.start
        rw [List.getElem?_append_left (by simpa [lr] using w), List.getElem?_map]
      rw [hv]
      cases q : rs[i]? with
      | none => rw [q] at e; cases e
      | some r =>
        obtain ⟨v, ev, rv⟩ := args vs rs h i r q
        rw [q] at e
        rw [ev]
        cases r with
        | val d => cases e; exact ⟨v, rfl, rv⟩
        | own d => exact rv.elim
        | bor d => cases e; obtain ⟨a, ea, ra⟩ := rv; exact ⟨a, by rw [ea]; rfl, ra⟩
    · rw [List.getElem?_append_right (by simpa using w), List.getElem?_replicate] at e
      split at e
      · cases e; trivial
      · cases e
/-- what a body's end gives the caller -/
theorem fn_end {P : Program} {T : Tx} {H Z : Hp} {vs : List V} {rs : List Rv} {d : FnI} {F : Callee} {Q : VK} {E : XK} {ρ : En} {σ : L2.St} (ne : ∀ a, ¬ OwnA ρ σ a) (p : CPost T H Z (resOf (d.body F ρ)) Q E) :
    PoS T ρ σ H Z (d.body F ρ) (fun cls d _ H => E cls d H) { nx := fun _ H' => Q .non H', rt := Q } := by
  have cs : ∀ {ρ' : En} {σ' : L2.St} {H' Z' : Hp}, SOk T ρ' σ' H' Z' → Step ρ σ H Z ρ' σ' H' Z' → CStep H Z H' Z' := fun {ρ' σ' H' Z'} S' E' =>
    ⟨S'.sub, fun a o e => E'.frame a o e (ne a), E'.le, fun a o e => (E'.grow a o e).elim .inl fun w => w.elim .inr fun v => absurd v (ne a)⟩
  cases q : d.body F ρ with
  | stuck => rw [q] at p; exact p
  | exc x ρ' => rw [q] at p; exact fun cls dd σ' H' Z' S' E' x' => p cls dd H' Z' (cs S' E') x'
  | ok f ρ' =>
    rw [q] at p
    cases f with
    | nx => exact fun σ' H' Z' S' E' => p .non H' Z' (cs S' E') rfl
    | brk => exact p.elim
    | cnt => exact p.elim
    | ret r =>
      cases r with
      | bor d => exact p.elim
      | val d => exact fun v σ' H' Z' S' E' o' => p v H' Z' (cs S' E') o'
      | own d =>
        intro v σ' H' Z' S' E' ⟨a, e, r, z, n, n3⟩
        exact p v H' Z' (cs S' E') ⟨a, e, r, z, n.elim id (fun w => absurd w (ne a)), n3⟩
end
section
variable {P : Program} {w : World} {K : PySem.W.Frag} {mg : Str → Option Value} {base : Heap} {x qual : Str} {params : Arguments} {body : List Stmt} {scope : Scope} {dvs : List V} {kws : List (Str × V)} {f : Addr} {fd : FuncData} {N ps : List Str} {k : Nat} {d : FnI} {F : Callee}
/-- THE RULE for a def -/
theorem fn_ok (Fd : FunD K x qual params body scope dvs kws f fd) (S : FnScope N ps scope) (hp : ps.length = d.np) (hN : N.length = d.ns)
    (hb : ∀ (cdv : Value) (A : Around) (outer : List Env) (s : Shared) (H : Hp) (E : XK), Room k (A.deeper (envOfC qual scope s.heap.objs.size f cdv)) → SSs (cxOf (L2.CX P w) P w K mg base N qual scope f cdv A outer s H E) body (d.body F)) :
    FnOk P w K mg base (L2.CX P w) (k + 1) f fd ps (spF ⟨K, mg, none⟩ (runFn d F) ps.length) := by
  refine Fd.ok S (fun vs H Q E h => ?_) fun cdv A outer s H vs Q E hr h => ?_
  · obtain ⟨Z, rs, _, _, e, _⟩ := h
    exact e
  · obtain ⟨Z, rs, hs, ha, hl, p⟩ := h
    have hpl : ps.length ≤ N.length := by have := congrArg List.length S.pre; rw [List.length_take] at this; omega
    unfold runFn at p
    have hrl : rs.length = d.np := by rw [← ha.length, hl, hp]
    rw [if_pos hrl] at p
    obtain ⟨S0, ne⟩ := start_ok (N := N) (ns := d.ns) hs ha (by omega) hN
    exact ⟨_, (hb cdv A outer s H E hr).run (fun cls d _ H => E cls d H) (takes_of rfl rfl rfl rfl), startE d.ns rs, Z, S0, fn_end (P := P) (vs := vs) (rs := rs) ne p⟩
end
end CI
end
section
set_option maxRecDepth 100000
/-! CICls: classes made, fields, errors raised and caught. -/
namespace CI
open PySem L2 PyProof.Rows
/-- behind an __init__: what stood stands but the instance at x -/
structure IStep (x : Addr) (H Z H' Z' : Hp) : Prop where
  sub : Le Z' H'
  frame : ∀ a o, H a = some o → a ≠ x → H' a = some o
  le : Le Z Z'
  grow : ∀ a o, Z' a = some o → Z a = some o ∨ H a = none ∨ a = x
def IPost (T : Tx) (x C : Addr) (H Z : Hp) (r : Res) (Q : VK) (E : XK) : Prop := match r with
  | .ok (.val (.obj _ fs)) => ∀ H' Z' gs, IStep x H Z H' Z' → ∀ dx', H' x = some (.ins C dx' gs) → RepF T Z' fs gs → Z' x = none → Q .non H'
  | .exc y => ∀ cls d H' Z', IStep x H Z H' Z' → XOk T Z' y cls d → E cls d H'
  | _ => False
/-- the promise of an __init__ -/
def spI (T : Tx) (c : Str) (G : List Rv → Res) (n : Nat) : Sp := fun vs H Q E => ∃ Z H0 rs x C dx va, vs = .ref x :: va ∧ T.mg c = some (.ref C) ∧ H x = some (.ins C dx []) ∧ H0 x = none ∧ Le Z H0 ∧ Le H0 H ∧ ArgsOk T H0 Z va rs ∧ vs.length = n ∧ IPost T x C H Z (G rs) Q E
section
variable {P : Program} {w : World} {K : PySem.W.Frag} {mg : Str → Option Value} {base : Heap} {x qual c : Str} {params : Arguments} {body : List Stmt} {scope : Scope} {dvs : List V} {kws : List (Str × V)} {f : Addr} {fd : FuncData} {N ps : List Str} {k : Nat} {d : FnI} {F : Callee}
theorem start_own {T : Tx} {H0 H Z : Hp} {N : List Str} {va : List V} {rs : List Rv} {ns : Nat} {x C dx : Addr} (hz : Le Z H0) (h0 : Le H0 H) (hx0 : H0 x = none) (hm : T.mg c = some (.ref C)) (hx : H x = some (.ins C dx [])) (h : ArgsOk T H0 Z va rs) (hl : va.length + 1 ≤ N.length) (hn : N.length = ns) :
    SOk T (.own (.obj c []) :: startE (ns - 1) rs) (L2.start N (.ref x :: va)) H Z ∧ (∀ a, OwnA (.own (.obj c []) :: startE (ns - 1) rs) (L2.start N (.ref x :: va)) a → a = x) := by
  have zx : Z x = none := by
    cases e : Z x with
    | none => rfl
    | some o => rw [hz x o e] at hx0; cases hx0
  have hN : ∃ n0 N', N = n0 :: N' := by cases N with
    | nil => simp at hl
    | cons n0 N' => exact ⟨n0, N', rfl⟩
  obtain ⟨n0, N', rfl⟩ := hN
  have est : L2.start (n0 :: N') (.ref x :: va) = some (.ref x) :: L2.start N' va := by
    unfold L2.start
    simp
  obtain ⟨S0, ne⟩ := start_ok (N := N') (ns := ns - 1) (hz.trans h0) (ArgsOk.mono h h0 (.refl _)) (by simp at hl; omega) (by simp at hn; omega)
  have S1 := (start_ok (N := N') (ns := ns - 1) hz h (by simp at hl; omega) (by simp at hn; omega)).1
  rw [est]
  have ownx : ∀ a, OwnA (.own (.obj c []) :: startE (ns - 1) rs) (some (.ref x) :: L2.start N' va) a → a = x := fun a ⟨i, d, h1, h2⟩ => by
    cases i with
    | zero => simp at h2; exact h2.symm
    | succ i => exact absurd ⟨i, d, by simpa using h1, by simpa using h2⟩ (ne a)
  refine ⟨⟨by simpa using S0.len, S0.sub, fun i s e => ?_, fun i j d d' a h1 h2 h3 h4 => ?_, fun a h1 h2 => ?_⟩, ownx⟩
  · cases i with
    | zero =>
      simp at e; subst e
      exact ⟨x, by simp, ⟨C, dx, [], hm, hx, rfl⟩, zx⟩
    | succ i =>
      have := S0.slot i s (by simpa using e)
      simpa using this
  · cases i with
    | zero => cases j with
      | zero => rfl
      | succ j => exact absurd ⟨j, d', by simpa using h2, by simpa using h4⟩ (ne a)
    | succ i => exact absurd ⟨i, d, by simpa using h1, by simpa using h3⟩ (ne a)
  · have e := ownx a h1
    subst e
    obtain ⟨i, d, g1, g2⟩ := h2
    cases i with
    | zero => simp at g1
    | succ i =>
      obtain ⟨o, ho⟩ := S1.bor ⟨i, d, by simpa using g1, by simpa using g2⟩
      rw [hx0] at ho; cases ho
/-- THE RULE for an __init__ -/
theorem init_ok (Fd : FunD K x qual params body scope dvs kws f fd) (S : FnScope N ps scope) (hp : ps.length = d.np) (hN : N.length = d.ns)
    (hb : ∀ (cdv : Value) (A : Around) (outer : List Env) (s : Shared) (H : Hp) (E : XK), Room k (A.deeper (envOfC qual scope s.heap.objs.size f cdv)) → SSs (cxOf (L2.CX P w) P w K mg base N qual scope f cdv A outer s H E) body (d.body F)) :
    FnOk P w K mg base (L2.CX P w) (k + 1) f fd ps (spI ⟨K, mg, none⟩ c (runInit c d F) ps.length) := by
  refine Fd.ok S (fun vs H Q E h => ?_) fun cdv A outer s H vs Q E hr h => ?_
  · obtain ⟨Z, H0, rs, x, C, dx, va, _, _, _, _, _, _, _, e, _⟩ := h
    exact e
  · obtain ⟨Z, H0, rs, x, C, dx, va, rfl, hm, hx, hx0, hz, h0, ha, hl, p⟩ := h
    have hpl : ps.length ≤ N.length := by have := congrArg List.length S.pre; rw [List.length_take] at this; omega
    have hl' : va.length + 1 = ps.length := by simpa using hl
    have hrl : rs.length + 1 = d.np := by rw [← ha.length, ← hp]; exact hl'
    unfold runInit at p
    rw [if_pos hrl] at p
    obtain ⟨S0, ne⟩ := start_own (N := N) (ns := d.ns) (c := c) (T := ⟨K, mg, none⟩) hz h0 hx0 hm hx ha (by omega) hN
    refine ⟨_, (hb cdv A outer s H E hr).run (fun cls d _ H => E cls d H) (takes_of rfl rfl rfl rfl), _, Z, S0, ?_⟩
    have cs : ∀ {ρ' : En} {σ' : L2.St} {H' Z' : Hp}, SOk ⟨K, mg, none⟩ ρ' σ' H' Z' → Step (.own (.obj c []) :: startE (d.ns - 1) rs) (L2.start N (.ref x :: va)) H Z ρ' σ' H' Z' → IStep x H Z H' Z' := fun {ρ' σ' H' Z'} S' E' =>
      ⟨S'.sub, fun a o e n => E'.frame a o e fun q => n (ne a q), E'.le, fun a o e => (E'.grow a o e).elim .inl fun q => .inr (q.elim .inl fun q => .inr (ne a q))⟩
    cases q : d.body F (.own (.obj c []) :: startE (d.ns - 1) rs) with
    | stuck => rw [q] at p; exact p
    | exc y ρ' => rw [q] at p; exact fun cls dd σ' H' Z' S' E' x' => p cls dd H' Z' (cs S' E') x'
    | ok fl ρ' =>
      rw [q] at p
      cases fl with
      | brk => exact p.elim
      | cnt => exact p.elim
      | ret r => exact p.elim
      | nx =>
        intro σ' H' Z' S' E'
        simp only [initEnd] at p
        split at p
        · rename_i c' fs h0'
          split at p
          · rename_i hc
            obtain ⟨a, ea, ⟨C', dx', gs, m', hi, rf⟩, za⟩ := S'.slot 0 _ h0'
            obtain ⟨_, es⟩ := E'.obj 0 _ h0' rfl
            rw [ea] at es
            have e1 : (L2.start N (V.ref x :: va))[0]? = some (some (.ref x)) := by
              unfold L2.start; simp
            rw [e1] at es
            cases es
            subst hc
            have ec : C' = C := by
              have e2 := hm.symm.trans m'
              cases e2; rfl
            subst ec
            -- the instance's own dict stays
            exact p H' Z' gs (cs S' E') dx' hi rf za
          · exact p.elim
        · exact p.elim
end

section
variable {X : Cx} {e o : Expr} {es : List Expr} {cs : Mn (List Rv)} {ce co : Mn Rv} {p pos pos' apos : Pos} {x n : Str} {G : List Rv → Res} {i : Nat}
/-- a class of the text may be called with n arguments -/
structure MOk (X : Ev) (c : Str) (G : List Rv → Res) (n : Nat) : Prop where
  ex : ∃ (k : Nat) (C f : Addr) (fd : FuncData) (ps : List Str) (ds : List Value) (dvs : List V) (dd : List D) (G' : List Rv → Res), X.mg c = some (.ref C) ∧ L2.Mk X.K C f ∧ Binds X.K fd ps ds ∧ Vals dvs ds ∧
    (∀ Z, Reps ⟨X.K, X.mg, none⟩ Z dd dvs) ∧ (∀ rs, G rs = G' (rs ++ dd.map Rv.val)) ∧ FnOk X.prog X.w X.K X.mg X.base (L2.CX X.prog X.w) k f fd ps (spI ⟨X.K, X.mg, none⟩ c G' ps.length) ∧ n + 1 + dvs.length = ps.length ∧ Room (k + 1) X.A ∧ (∀ rs r, G' rs = .ok r → ∃ fs, r = .val (.obj c fs))
theorem run_makeS {k : Nat} {C f : Addr} {fd : FuncData} {ps : List Str} {sp : Sp} {dvs : List V} {ds : List Value} {pins : List (Addr × Obj)} {σ : L2.St} {H : Hp} {s : Shared} {Q : VK} {us : List Value} {vs : List V} {E : XK} (M : L2.Mk X.K C f) (F : FnOk X.prog X.w X.K X.mg X.base (L2.CX X.prog X.w) k f fd ps sp) (hr : Room (k + 1) X.A) (hb : Binds X.K fd ps ds) (hd : Vals dvs ds)
    (hx : ∀ (H' : Hp) (s' : Shared), Inv X pins σ H' s' → ∀ e s'', L2.CX X.prog X.w X.stack H' s' E e s'' → X.xe e s'') (I : Inv X pins σ H s) (r : Vals vs us)
    (h : ∀ x dx, H x = none → H dx = none → dx ≠ x → sp (.ref x :: (vs ++ dvs)) (upd (upd H dx (.own x)) x (.ins C dx [])) (fun v H2 => v = .non ∧ Q (.ref x) H2) E) :
    wpAny (model X.prog X.w) X.A (call (.ref C) us) (EP X pins σ Q) X.xe s := by
  have hq := h (s.heap.objs.size + 1) s.heap.objs.size (I.hok.fresh (Nat.le_succ _)) (I.hok.fresh (Nat.le_refl _)) (Nat.ne_of_lt (Nat.lt_succ_self _))
  have I2 := Inv.made (C := C) I
  have r2 : Vals (V.ref (s.heap.objs.size + 1) :: (vs ++ dvs)) (Value.ref (s.heap.objs.size + 1) :: (us ++ ds)) := .cons rfl (r.append hd)
  have hl : (Value.ref (s.heap.objs.size + 1) :: us ++ ds).length = ps.length := by
    have e := r2.length
    rw [F.len _ _ _ _ hq] at e
    exact e.symm
  refine wpAny_call (make_map (f := f) I.kIn M.makes M.init (beq_iff_eq.mp M.fn) (codeAny_mono (F.run _ X.stack _ _ ⟨Value.ref (s.heap.objs.size + 1) :: us, []⟩ (Value.ref (s.heap.objs.size + 1) :: (us ++ ds)) _ _ E (hr.make C us [])
    (I2.env0.make C us []) (hb _ (Value.ref (s.heap.objs.size + 1) :: us) I2.kIn hl) r2 hq) fun r s' hq' => ?_))
  cases r with
  | error e => exact hx _ _ I2 e s' hq'
  | ok fl =>
    cases fl with
    | ret u =>
      obtain ⟨v, H', I3, rv, ev, q3⟩ := I2.after hq'
      subst ev
      exact ⟨rv, ⟨V.ref (s.heap.objs.size + 1), H', I3, rfl, q3⟩⟩
    | next => exact False.elim hq'
    | brk => exact False.elim hq'
    | cont => exact False.elim hq'
theorem se_make (hc : X.calm = true) (C : MOk (ev X) x G (es.length + 1)) (ha : SA X (e :: es) cs) (hg : Gl X x) (hdb : (x == ("__debug__" : Str)) = false := by decide) (he : starEach (e :: es) X.env = (false, eval e X.env) :: starEach es X.env := by rfl) (hpl : (backTo pos (starEach es X.env)).any (·.1) = false := by rfl)
    (hlen : ∀ ρ rs ρ', cs ρ = .ok rs ρ' → rs.length = es.length + 1) : SE X (.Call (.Name x p) (e :: es) [] pos) (cCallG G cs) := by
  obtain ⟨k, C, f, fd, ps, ds, dvs, dd, G', hm, M, hb, hd, hdd, hG, FO, hn, hr, hcl⟩ := C.ex
  have ht := tx_calm hc
  have FO : FnOk X.prog X.w X.K X.mg X.base (L2.CX X.prog X.w) k f fd ps (spI (tx X) x G' ps.length) := by rw [ht]; exact FO
  have hdd : ∀ Z, Reps (tx X) Z dd dvs := by rw [ht]; exact hdd
  refine ⟨fun W tk => ⟨fun pins s σ H Q I ⟨ρ, Z, S, pp⟩ => ?_⟩⟩
  refine wpAny_Call_Name_kw (ld_glob I hg hm ?_ hdb)
  refine PySem.W.callWith_K (h₀ := X.base) I.ok.mod.kin M.kp (thn ((ha.run W tk).run pos pins s σ H (fun vs H1 => ∃ rs ρ1 Z1, vs.length = es.length + 1 ∧ SOk (tx X) ρ1 σ H1 Z1 ∧ ArgsOk (tx X) H1 Z1 vs rs ∧ Po kE (tx X) ρ1 σ H1 Z1 (ofRes (G rs) ρ1) W Q) I ⟨ρ, Z, S, ?_⟩) fun us s1 ⟨vs, H1, I1, r, rs, ρ1, Z1, hl, S1, ao, p1⟩ => ⟨I1.kIn, ?_⟩) he hpl
  · unfold cCallG CI.bnd at pp
    cases q : cs ρ with
    | stuck => rw [q] at pp; exact pp
    | exc x ρ' => rw [q] at pp; exact pp
    | ok rs ρ' =>
      rw [q] at pp
      intro vs H1 Z1 S1 E1 o1
      have p1 : Po kE (tx X) ρ' σ H1 Z1 (ofRes (G rs) ρ') W Q := Po.later pp E1
      exact ⟨rs, ρ', Z1, by rw [ArgsOk.length o1]; exact hlen ρ rs ρ' q, S1, o1, p1⟩
  · refine run_makeS (E := WE W σ) M FO hr hb hd (fun H' s' I' e s'' c => tk e s'' (XE.of_call I' (fun _ _ _ h => h) c)) I1 r fun x dx hx hdx hne => ?_
    rw [hG rs] at p1
    have noteq : ∀ a o, H1 a = some o → a ≠ x ∧ a ≠ dx := fun a o e => ⟨ne_of_none e hx, ne_of_none e hdx⟩
    refine ⟨Z1, H1, rs ++ dd.map Rv.val, x, C, dx, vs ++ dvs, rfl, hm, upd_same, hx, S1.sub, fun a o e => by rw [upd_ne (noteq a o e).1, upd_ne (noteq a o e).2]; exact e, ArgsOk.append (hdd Z1) ao, by rw [List.length_cons, List.length_append, hl]; omega, ?_⟩
    have cstep : ∀ {H' Z' : Hp}, IStep x (upd (upd H1 dx (.own x)) x (.ins C dx [])) Z1 H' Z' → CStep H1 Z1 H' Z' := fun {H' Z'} s => ⟨s.sub, fun a o e => s.frame a o (by rw [upd_ne (noteq a o e).1, upd_ne (noteq a o e).2]; exact e) (noteq a o e).1, s.le, fun a o e => by
      rcases s.grow a o e with q | q | q
      · exact .inl q
      · by_cases ha : a = x
        · rw [ha]; exact .inr hx
        · by_cases hb : a = dx
          · rw [hb]; exact .inr hdx
          · rw [upd_ne ha, upd_ne hb] at q; exact .inr q
      · rw [q]; exact .inr hx⟩
    cases hr2 : G' (rs ++ dd.map Rv.val) with
    | stuck => rw [hr2] at p1; exact p1.elim
    | exc y =>
      rw [hr2] at p1
      exact fun cls d H' Z' st x' => p1 cls d H' Z' (S1.call (cstep st)) (.call (cstep st)) x'
    | ok rv =>
      rw [hr2] at p1
      obtain ⟨fs, rfl⟩ := hcl _ _ hr2
      intro H' Z' gs st dx' hi rf zx
      refine ⟨rfl, ?_⟩
      have c1 := cstep st
      have c2 : CStep H1 Z1 H' (frz Z' H' x) := ⟨frz_sub st.sub, c1.same, c1.le.trans (frz_le zx), fun a o e => by
        by_cases ha : a = x
        · rw [ha]; exact .inr hx
        · rw [frz_ne ha] at e; exact c1.grow a o e⟩
      exact p1 (.ref x) H' _ (S1.call c2) (.call c2) ⟨x, C, dx', gs, rfl, hm, frz_at.trans hi, rf.mono (frz_le zx)⟩

/-! fields -/
/-- the classes of these names have no class attribute f -/
def FOk (X : Ev) (cl : List Str) (f : Str) : Prop := ∀ c C, c ∈ cl → X.mg c = some (.ref C) → L2.Cls X.K C ∧ L2.NoAttr X.K C f
theorem rd_obj {T : Tx} {H Z : Hp} {v : V} {c : Str} {fs : List (Str × D)} (s : Le Z H) (h : RdOk T H Z v (.obj c fs)) : ∃ a C dx gs, v = .ref a ∧ T.mg c = some (.ref C) ∧ H a = some (.ins C dx gs) ∧ RepF T Z fs gs := by
  rcases h with ⟨a, C, dx, gs, e, m, q, r⟩ | ⟨a, e, C, dx, gs, m, q, r⟩
  · exact ⟨a, C, dx, gs, e, m, s _ _ q, r⟩
  · exact ⟨a, C, dx, gs, e, m, q, r⟩
theorem se_fld {cl : List Str} {f : Str} (hf : FOk (ev X) cl f) (he : SE X o co) (hb : attributeBase o f X.env (eval o X.env) = eval o X.env := by rfl) : SE X (.Attribute o f pos) (cFld cl f co) :=
  ⟨fun W tk => peI (pe_fld (he.run W tk) hb) (tE_of fun ρ σ H Z Q S p => ⟨ρ, Z, S, p.bnd (k1 := kE) fun r v ρ1 H1 Z1 S1 E1 o1 p1 => by
    cases hd : fldD cl f r.d with
    | none => rw [hd] at p1; exact p1.elim
    | some d =>
      rw [hd] at p1
      cases hr : r.d with
      | obj c fs =>
        rw [hr] at hd
        have rd := RvOk.read o1
        rw [hr] at rd
        simp only [fldD] at hd
        split at hd
        · rename_i hc
          obtain ⟨a, C, dx, gs, rfl, m, q, rf⟩ := rd_obj S1.sub rd
          obtain ⟨u, hu, ru⟩ := rf.lookup hd
          obtain ⟨f1, f2⟩ := hf c C hc m
          exact ⟨a, C, dx, gs, u, rfl, q, f1, f2, hu, Po.out (k := kE) (a := .val d) p1 S1 ru⟩
        · cases hd
      | _ => rw [hr] at hd; cases hd⟩)⟩
theorem putF_rep {T : Tx} {Z : Hp} {f : Str} {d : D} {v : V} (h : Rep T Z d v) : ∀ {fs : List (Str × D)} {gs : List (Str × V)}, RepF T Z fs gs → RepF T Z (putFD f d fs) (L2.putF f v gs)
  | [], gs, r => by rw [show gs = [] from r]; exact ⟨v, [], rfl, h, rfl⟩
  | (g, d0) :: fs, gs, ⟨u, r, e, q, s⟩ => by
    subst e
    unfold putFD L2.putF
    by_cases hg : g = f
    · rw [if_pos hg, if_pos hg, hg]; exact ⟨v, r, rfl, h, s⟩
    · rw [if_neg hg, if_neg hg]; exact ⟨u, _, rfl, q, putF_rep h s⟩
theorem ss_fld {c f : Str} {po : Pos} (hf : FOk (ev X) [c] f) (hN : X.N[i]? = some x) (hv : Vis X.env.scope x) (he : SE X e ce) (hd : (x == ("__debug__" : Str)) = false := by decide) (hcd : (x == ("__classdict__" : Str)) = false := by decide)
    (hs : swapsWith e (some (.Attribute (.Name x po) f pos')) pos.line X.env = pure false := by rfl) : SS X (.Assign [.Attribute (.Name x po) f pos'] e pos) (cFldS i c f ce) :=
  ⟨fun W tk => psI (ps_fld (pe_var hN hv hd hcd) ((sd_v he).run W tk) hs) (tS_of fun ρ σ H Z Dn S p => ⟨ρ, Z, S, p.bnd (k := kD) fun d v ρ1 H1 Z1 S1 E1 o1 p2 => by
    have p3 := PoS.bndN (R := fun σ' H' => Dn.nx σ' H') p2 fun ρ2 σ2 H2 Z2 S2 E2 p4 => p4 σ2 H2 Z2 S2 (.refl _ _ _ _)
    obtain ⟨d0, d', g1, g2, g3⟩ := mutU_ok (T := tx X) p3.ns
    rw [g3] at p3
    unfold putD at g2
    split at g2
    · rename_i c' fs
      split at g2
      · rename_i hc
        cases g2
        obtain ⟨a, ea, ⟨C, dx, gs, m, q, rf⟩, _⟩ := S1.slot i _ g1
        have hcc : c' ∈ [c] := by rw [hc.1]; simp
        obtain ⟨f1, f2⟩ := hf c' C hcc m
        have M := S1.mut (d' := .obj c' (putFD f d fs)) (o := .ins C dx (L2.putF f v gs)) g1 ea ⟨C, dx, _, m, upd_same, putF_rep o1 rf⟩ fun _ => rfl
        exact ⟨_, ea, a, C, dx, gs, rfl, q, f1, f2, by rw [← rf.length]; exact hc.2, p3 σ _ Z1 M.1 M.2⟩
      · cases g2
    · cases g2⟩)⟩

/-! raise -/
/-- an own error class without fields -/
structure EOk (X : Ev) (c : Str) : Prop where
  ex : ∃ C, X.mg c = some (.ref C) ∧ PySem.W.excIn X.K C [.type "ValueError", .type "Exception", .type "BaseException", .type "object"] "ValueError.__new__" = true ∧ PySem.W.keepIn X.K (.ref C) = true ∧ PySem.W.subIn X.K (.ref C) (.type "BaseException") = some true ∧ PySem.W.typeIn X.K (.ref C) = some (.type "type")
theorem ss_rse {m : Str} {j : Nat} {p2 : Pos} (hc : X.calm = true) (h : EOk (ev X) x) (hg : Gl X x) (hdb : (x == ("__debug__" : Str)) = false := by decide) : SS X (.Raise (some (.Call (.Name x p) [.Constant (.str m) j p2] [] pos)) none pos') (cRse x) := by
  obtain ⟨C, hm, h1, h2, h3, h4⟩ := h.ex
  exact ⟨fun W tk => psI (ps_raise hc tk (pmk_own PySem.F.excBase_ValueError h1 hm h2 (raises_own h3 h4) hg hdb)) (tS_of fun ρ σ H Z Dn S p => p _ _ σ H Z S (.refl _ _ _ _) ⟨C, hm, rfl, .inl ⟨rfl, rfl⟩⟩)⟩
end
end CI
end
section
set_option maxRecDepth 100000
/-! CITry: try .. except .. as. -/
namespace CI
open PySem L2 PyProof.Rows
mutual
theorem Rep.congr {T T' : Tx} {Z : Hp} (hK : T.K = T'.K) (hm : T.mg = T'.mg) : ∀ {d : D} {v : V}, Rep T Z d v → Rep T' Z d v
  | .non, _, r => r
  | .bl _, _, r => r
  | .int _, _, r => r
  | .str _, _, r => r
  | .tup _, _, ⟨a, vs, e, q, r⟩ => ⟨a, vs, e, hK ▸ q, Reps.congr hK hm r⟩
  | .lst _, _, ⟨a, vs, e, q, r⟩ => ⟨a, vs, e, q, Reps.congr hK hm r⟩
  | .dic _, _, ⟨a, e, es, q, r⟩ => ⟨a, e, es, q, RepK.congr hK hm r⟩
  | .obj _ _, _, ⟨a, C, dx, gs, e, m, q, r⟩ => ⟨a, C, dx, gs, e, hm ▸ m, q, RepF.congr hK hm r⟩
  | .glo _, _, ⟨a, e, m⟩ => ⟨a, e, hm ▸ m⟩
theorem Reps.congr {T T' : Tx} {Z : Hp} (hK : T.K = T'.K) (hm : T.mg = T'.mg) : ∀ {ds : List D} {vs : List V}, Reps T Z ds vs → Reps T' Z ds vs
  | [], _, r => r
  | _ :: _, _, ⟨v, r, e, q, s⟩ => ⟨v, r, e, Rep.congr hK hm q, Reps.congr hK hm s⟩
theorem RepF.congr {T T' : Tx} {Z : Hp} (hK : T.K = T'.K) (hm : T.mg = T'.mg) : ∀ {ds : List (Str × D)} {vs : List (Str × V)}, RepF T Z ds vs → RepF T' Z ds vs
  | [], _, r => r
  | (_, _) :: _, _, ⟨v, r, e, q, s⟩ => ⟨v, r, e, Rep.congr hK hm q, RepF.congr hK hm s⟩
theorem RepK.congr {T T' : Tx} {Z : Hp} (hK : T.K = T'.K) (hm : T.mg = T'.mg) : ∀ {ds : List (D × D)} {vs : List (Key × V)}, RepK T Z ds vs → RepK T' Z ds vs
  | [], _, r => r
  | (_, _) :: _, _, ⟨q, v, r, e, q1, q2, s⟩ => ⟨q, v, r, e, Rep.congr hK hm q1, Rep.congr hK hm q2, RepK.congr hK hm s⟩
end
theorem OR.congr {T T' : Tx} {H Z : Hp} {a : Addr} {d : D} (hK : T.K = T'.K) (hm : T.mg = T'.mg) (h : OR T H Z a d) : OR T' H Z a d := by
  cases d with
  | lst _ => obtain ⟨vs, q, r⟩ := h; exact ⟨vs, q, r.congr hK hm⟩
  | dic _ => obtain ⟨vs, q, r⟩ := h; exact ⟨vs, q, r.congr hK hm⟩
  | obj _ _ => obtain ⟨C, dx, gs, m, q, r⟩ := h; exact ⟨C, dx, gs, hm ▸ m, q, r.congr hK hm⟩
  | _ => exact h.elim
theorem RetOk.congr {T T' : Tx} {ρ : En} {σ : L2.St} {H H' Z' : Hp} {v : V} {r : Rv} (hK : T.K = T'.K) (hm : T.mg = T'.mg) (h : RetOk T ρ σ H H' Z' v r) : RetOk T' ρ σ H H' Z' v r := by
  cases r with
  | val d => exact Rep.congr hK hm h
  | bor d => exact h
  | own d => obtain ⟨a, e, r, z⟩ := h; exact ⟨a, e, r.congr hK hm, z⟩
section
variable {T T' : Tx} {ρ : En} {σ : L2.St} {H Z : Hp} {i : Nat}
/-- slot i is forgotten -/
theorem SOk.gone (S : SOk T ρ σ H Z) : SOk T (ρ.set i .emp) (σ.set i none) H Z := by
  have own_in : ∀ {b : Addr}, OwnA (ρ.set i .emp) (σ.set i none) b → OwnA ρ σ b := fun {b} ⟨j, d, h1, h2⟩ => by
    rcases set_get h1 with ⟨_, e⟩ | ⟨hj, e⟩
    · cases e
    · rw [List.getElem?_set_ne hj] at h2; exact ⟨j, d, e, h2⟩
  have bor_in : ∀ {b : Addr}, BorA (ρ.set i .emp) (σ.set i none) b → BorA ρ σ b := fun {b} ⟨j, d, h1, h2⟩ => by
    rcases set_get h1 with ⟨_, e⟩ | ⟨hj, e⟩
    · cases e
    · rw [List.getElem?_set_ne hj] at h2; exact ⟨j, d, e, h2⟩
  refine ⟨by rw [List.length_set, List.length_set]; exact S.len, S.sub, fun j s hj => ?_, fun j k d1 d2 a h1 h2 h3 h4 => ?_, fun a h1 h2 => S.sep a (own_in h1) (bor_in h2)⟩
  · rcases set_get hj with ⟨_, rfl⟩ | ⟨n, hj⟩
    · trivial
    · rw [List.getElem?_set_ne n]; exact S.slot j s hj
  · rcases set_get h1 with ⟨_, e⟩ | ⟨n1, h1⟩
    · cases e
    · rcases set_get h2 with ⟨_, e⟩ | ⟨n2, h2⟩
      · cases e
      · rw [List.getElem?_set_ne n1] at h3
        rw [List.getElem?_set_ne n2] at h4
        exact S.inj j k d1 d2 a h1 h2 h3 h4
theorem clean_get {j : Nat} {s : Sl} (h : (clean ρ)[j]? = some s) : (s = .emp) ∨ (ρ[j]? = some s ∧ ∀ x, s ≠ .exn x) := by
  unfold clean at h
  rw [List.getElem?_map] at h
  cases q : ρ[j]? with
  | none => rw [q] at h; cases h
  | some u =>
    rw [q] at h
    cases u with
    | exn x => cases h; exact .inl rfl
    | emp => cases h; exact .inl rfl
    | val d => cases h; exact .inr ⟨rfl, fun _ z => by cases z⟩
    | own d => cases h; exact .inr ⟨rfl, fun _ z => by cases z⟩
    | bor d => cases h; exact .inr ⟨rfl, fun _ z => by cases z⟩
theorem clean_own {a : Addr} (h : OwnA (clean ρ) σ a) : OwnA ρ σ a := by
  obtain ⟨j, d, h1, h2⟩ := h
  rcases clean_get h1 with e | ⟨e, _⟩
  · cases e
  · exact ⟨j, d, e, h2⟩
theorem clean_bor {a : Addr} (h : BorA (clean ρ) σ a) : BorA ρ σ a := by
  obtain ⟨j, d, h1, h2⟩ := h
  rcases clean_get h1 with e | ⟨e, _⟩
  · cases e
  · exact ⟨j, d, e, h2⟩
theorem SOk.clean (S : SOk T ρ σ H Z) (hK : T.K = T'.K) (hm : T.mg = T'.mg) : SOk T' (clean ρ) σ H Z := by
  refine ⟨by unfold CI.clean; rw [List.length_map]; exact S.len, S.sub, fun j s hj => ?_, fun j k d1 d2 a h1 h2 h3 h4 => ?_, fun a h1 h2 => S.sep a (clean_own h1) (clean_bor h2)⟩
  · rcases clean_get hj with rfl | ⟨hj, nx⟩
    · trivial
    · have z := S.slot j s hj
      cases s with
      | emp => trivial
      | exn x => exact absurd rfl (nx x)
      | val d => obtain ⟨v, e, r⟩ := z; exact ⟨v, e, r.congr hK hm⟩
      | own d => obtain ⟨b, e, r, q⟩ := z; exact ⟨b, e, r.congr hK hm, q⟩
      | bor d => obtain ⟨b, e, r⟩ := z; exact ⟨b, e, r.congr hK hm⟩
  · rcases clean_get h1 with e | ⟨g1, _⟩
    · cases e
    · rcases clean_get h2 with e | ⟨g2, _⟩
      · cases e
      · exact S.inj j k d1 d2 a g1 g2 h3 h4
/-- a suite begins: the error lies in slot i -/
theorem SOk.caught {a : Addr} {oe : Obj} {x : Exc} {C : Addr} (S : SOk T ρ σ H Z) (hT : T.ex = none) (hT' : T'.ex = some (a, oe)) (hK : T.K = T'.K) (hm : T.mg = T'.mg) (hx : XSl T' Z x (some (some (.ref a)))) : SOk T' (ρ.set i (.exn x)) (σ.set i (some (.ref a))) H Z := by
  have own_in : ∀ {b : Addr}, OwnA (ρ.set i (.exn x)) (σ.set i (some (.ref a))) b → OwnA ρ σ b := fun {b} h => (own_set h).elim (fun ⟨_, e, _⟩ => by cases e) id
  have bor_in : ∀ {b : Addr}, BorA (ρ.set i (.exn x)) (σ.set i (some (.ref a))) b → BorA ρ σ b := fun {b} h => bor_set (fun _ z => by cases z) h
  refine ⟨by rw [List.length_set, List.length_set]; exact S.len, S.sub, fun j s hj => ?_, fun j k d1 d2 b h1 h2 h3 h4 => ?_, fun b h1 h2 => S.sep b (own_in h1) (bor_in h2)⟩
  · rcases set_get hj with ⟨rfl, rfl⟩ | ⟨n, hj'⟩
    · have hl : i < σ.length := by
        rcases Nat.lt_or_ge i ρ.length with h | h
        · rw [← S.len]; exact h
        · rw [List.getElem?_eq_none (by simpa using h)] at hj; cases hj
      rw [List.getElem?_set_self hl]; exact hx
    · rw [List.getElem?_set_ne n]
      have z := S.slot j s hj'
      cases s with
      | emp => trivial
      | exn y => obtain ⟨_, _, _, e, _⟩ := z; rw [hT] at e; cases e
      | val d => obtain ⟨v, e, r⟩ := z; exact ⟨v, e, r.congr hK hm⟩
      | own d => obtain ⟨b, e, r, q⟩ := z; exact ⟨b, e, r.congr hK hm, q⟩
      | bor d => obtain ⟨b, e, r⟩ := z; exact ⟨b, e, r.congr hK hm⟩
  · rcases set_get h1 with ⟨_, e⟩ | ⟨n1, h1⟩
    · cases e
    · rcases set_get h2 with ⟨_, e⟩ | ⟨n2, h2⟩
      · cases e
      · rw [List.getElem?_set_ne n1] at h3
        rw [List.getElem?_set_ne n2] at h4
        exact S.inj j k d1 d2 b h1 h2 h3 h4
theorem step_caught {s : Sl} {v : V} (nb : ∀ d, s ≠ .bor d) (hn : ∀ d, s ≠ .own d) : Step ρ σ H Z (ρ.set i s) (σ.set i (some v)) H Z := Step.store (T := ⟨[], fun _ => none, none⟩) nb hn
theorem step_gone : Step ρ σ H Z (ρ.set i .emp) (σ.set i none) H Z :=
  ⟨fun _ _ h _ => h, .refl _, fun _ _ h => .inl h, fun a ⟨j, d, h1, h2⟩ => by
    rcases set_get h1 with ⟨_, e⟩ | ⟨hj, e⟩
    · cases e
    · rw [List.getElem?_set_ne hj] at h2; exact .inl ⟨j, d, e, h2⟩, fun _ h => h, fun j d h => by
    rcases set_get h with ⟨_, e⟩ | ⟨hj, e⟩
    · cases e
    · exact ⟨e, by rw [List.getElem?_set_ne hj]⟩, fun j d h o => by
    rcases set_get h with ⟨_, e⟩ | ⟨hj, e⟩
    · cases e
    · exact ⟨⟨d, e, o⟩, by rw [List.getElem?_set_ne hj]⟩⟩
theorem step_clean : Step ρ σ H Z (CI.clean ρ) σ H Z :=
  ⟨fun _ _ h _ => h, .refl _, fun _ _ h => .inl h, fun a h => .inl (clean_own h), fun _ h => h, fun j d h => by
    rcases clean_get h with e | ⟨e, _⟩
    · cases e
    · exact ⟨e, rfl⟩, fun j d h o => by
    rcases clean_get h with e | ⟨e, _⟩
    · cases e
    · exact ⟨⟨d, e, o⟩, rfl⟩⟩
end
/-- which classes of the text are of the class c -/
def SubOk (X : Ev) (c : Value) (su : Str → Option Bool) : Prop := ∀ x C b, su x = some b → X.mg x = some (.ref C) → PySem.W.exmOne X.K (.ref C) c = some b
section
variable {X : Cx} {x n : Str} {c : Value} {i : Nat} {body suite : List Stmt} {b₀ : Stmt} {np pos pos' : Pos} {cb cs : Mn Fl} {su : Str → Option Bool}
theorem ss_try (hc : X.calm = true) (hs : X.stack = X.env :: X.outer) (hf : X.env.frame = some X.env.locals) (hN : X.N.Nodup) (hi : X.N[i]? = some n) (hln : X.env.kindOf n = some .local) (hcn : L2.Names X x c) (hsub : SubOk (ev X) c su)
    (hb : ∀ (pn : List (Addr × Obj)) (xe : Value → Shared → Prop), PassesOwn (model X.prog X.w) X.A X.env xe → SSs (X.tr pn xe) body cb)
    (hsu : ∀ (a : Addr) (oe : Obj) (pn : List (Addr × Obj)), SSs (X.suite a ((a, oe) :: pn)) (b₀ :: suite) cs) :
    SS X (.Try body [.ExceptHandler (some (.Name x np)) (some n) (b₀ :: suite) pos'] [] [] pos) (cTry cb su i cs) := by
  have ht := tx_calm hc
  refine ⟨fun W tk => psI (ps_try_as (i := i) (tb := fun W' => tS (tx X) W' cb) (ts := fun a cls d => fun Dn σ H => ∀ oe : Obj, Zc cls d oe → (∃ vs, oe.data = .fields vs) → tS ⟨X.K, X.mg, some (a, oe)⟩ WF cs Dn σ H) (Wout := W) hs hf hN hi hln hcn tk
    (fun W' pn xe tk' hp => ?_) (fun a oe cls d pn hz hd => ?_)) (tS_of fun ρ σ H Z Dn S p => ⟨ρ, Z, S, ?_⟩)⟩
  · have h := (hb pn xe hp).run W' tk'
    rw [tx_calm (X := X.tr pn xe) hc] at h
    rw [ht]
    exact h
  · exact pssI ((hsu a oe pn).run WF takes0) fun Dn σ H h => h oe hz hd
  · unfold cTry at p
    cases q : cb ρ with
    | stuck => rw [q] at p; exact p
    | ok f ρ' =>
      rw [q] at p
      cases f with
      | nx => exact p
      | brk => exact p
      | cnt => exact p
      | ret r => exact p
    | exc y ρ' =>
      rw [q] at p
      intro cls d σ' H' Z' S' E' x'
      obtain ⟨C, hm, rfl, hd⟩ := id x'
      simp only at p
      cases hsy : su y.1 with
      | none => rw [hsy] at p; exact p.elim
      | some b =>
        refine ⟨b, hsub y.1 C b hsy hm, fun hbt a ha oe hz hfl => ?_, fun hbf => ?_⟩
        · subst hbt
          rw [hsy] at p
          simp only at p
          obtain ⟨z1, z2⟩ := hz
          have hx : XSl ⟨X.K, X.mg, some (a, oe)⟩ Z' y (some (some (.ref a))) := ⟨a, oe, C, rfl, rfl, hm, z1, hfl, hd.elim (fun ⟨e1, e2⟩ => .inl ⟨e1, z2.trans e2⟩) fun ⟨n0, dd, gs, e1, e2, e3⟩ => .inr ⟨n0, dd, gs, z2.trans e1, e2, RepF.congr (T := tx X) (T' := ⟨X.K, X.mg, some (a, oe)⟩) rfl rfl e3⟩⟩
          have S2 := S'.caught (i := i) (T' := ⟨X.K, X.mg, some (a, oe)⟩) (C := C) (by rw [ht]) rfl rfl rfl hx
          refine ⟨_, Z', S2, ?_⟩
          have E2 : Step ρ σ H Z (ρ'.set i (.exn y)) (σ'.set i (some (.ref a))) H' Z' := E'.trans (step_caught (fun _ z => by cases z) fun _ z => by cases z)
          have fin : ∀ {ρ3 : En} {σ3 : L2.St} {H3 Z3 : Hp}, SOk ⟨X.K, X.mg, some (a, oe)⟩ ρ3 σ3 H3 Z3 → Step (ρ'.set i (.exn y)) (σ'.set i (some (.ref a))) H' Z' ρ3 σ3 H3 Z3 → SOk (tx X) ((CI.clean ρ3).set i .emp) (σ3.set i none) H3 Z3 ∧ Step ρ σ H Z ((CI.clean ρ3).set i .emp) (σ3.set i none) H3 Z3 := fun {ρ3 σ3 H3 Z3} S3 E3 =>
            ⟨(S3.clean (T' := tx X) rfl rfl).gone, (E2.trans E3).trans (step_clean.trans step_gone)⟩
          cases q2 : cs (ρ'.set i (.exn y)) with
          | stuck => rw [q2] at p; exact p
          | exc y2 ρ3 => rw [q2] at p; exact p.elim
          | ok f ρ3 =>
            rw [q2] at p
            cases f with
            | nx => exact fun σ3 H3 Z3 S3 E3 => p _ H3 Z3 (fin S3 E3).1 (fin S3 E3).2
            | brk => exact fun σ3 H3 Z3 S3 E3 => p _ H3 Z3 (fin S3 E3).1 (fin S3 E3).2
            | cnt => exact fun σ3 H3 Z3 S3 E3 => p _ H3 Z3 (fin S3 E3).1 (fin S3 E3).2
            | ret r => exact fun v σ3 H3 Z3 S3 E3 o3 => p v _ H3 Z3 (fin S3 E3).1 (fin S3 E3).2 (RetOk.congr (T := ⟨X.K, X.mg, some (a, oe)⟩) (T' := tx X) rfl rfl (o3.base E2))
        · subst hbf
          rw [hsy] at p
          exact p _ d σ' H' Z' S' E' x'
/-- isinstance(e, c) in a suite: what the classes of the text say -/
def IsEOk (E : Ev) (cv : Value) (su : Str → Option Bool) : Prop := ∀ x C b, su x = some b → E.mg x = some (.ref C) → L2.ExcC E.K C ∧ PySem.W.kitOne E.K (.ref C) cv = some b
theorem se_isE {a : Addr} {oe : Obj} {pn : List (Addr × Obj)} {cn : Str} {pe pc pp : Pos} {cv : Value} {vc : V} (hE : IsEOk (ev X) cv su) (hi : X.N[i]? = some n) (hv : Vis X.env.scope n) (hg : Gl X "isinstance") (hm : X.mg "isinstance" = none)
    (hc : PE (X.suite a ((a, oe) :: pn)) (.Name cn pc) (tC vc)) (hvc : ∀ u, RelV vc u → u = cv) (hd : (n == ("__debug__" : Str)) = false := by decide) (hcd : (n == ("__classdict__" : Str)) = false := by decide) :
    SE (X.suite a ((a, oe) :: pn)) (.Call (.Name "isinstance" pp) [.Name n pe, .Name cn pc] [] pos) (cIsE i su) :=
  ⟨fun W tk => ⟨fun pins s σ H Q I ⟨ρ, Z, S, p⟩ => by
    unfold cIsE at p
    cases q : ρ[i]? with
    | none => rw [q] at p; exact p.elim
    | some sl =>
      rw [q] at p
      cases sl with
      | exn y =>
        obtain ⟨a', oe', C, e1, e2, e3, e4, e5, e6⟩ := S.slot i _ q
        cases e1
        simp only at p
        split at p
        · rename_i b hy hb
          have hz : Zc (.ref C) none oe := ⟨e4, e6.elim (fun w => w.2) fun w => absurd hy w.1⟩
          obtain ⟨ex, hk⟩ := hE y.1 C b hb e3
          have R := pe_callB (X := X.suite a ((a, oe) :: pn)) (p := pp) (pos := pos) (x := "isinstance") (call_isE (X := X) (pn := pn) ex hz e5) hg hm (by decide +kernel) (pa_cons (pe_var (i := i) (x := n) (pos := pe) hi hv hd hcd) (pa_cons hc pa_nil (by rfl)) (by rfl)) (by decide) (by decide) (by rfl) (by rfl)
          refine R.run pins s σ H Q I ⟨_, e2, vc, cv, b, rfl, hvc, hk, ?_⟩
          exact Po.out (k := kE) (a := .val (.bl b)) p S rfl
        · exact p.elim
      | _ => exact p.elim⟩⟩
end
end CI
end
section
set_option maxRecDepth 100000
/-! CIZip: zip of a list or a tuple with a list or a tuple; enumerate of either. -/
namespace CI
open PySem PySem.Spec L2 PyProof.Rows
/-- a sequence: t says a tuple -/
def SqX (K : PySem.W.Frag) (H : Hp) (t : Bool) (a : Addr) (xs : List V) : Prop := match t with
  | true => SqT K H a xs
  | false => SqL K H a xs
def ItX (h : Heap) (t : Bool) (it a : Addr) (i : Nat) : Prop := match t with
  | true => h.IsTupleIter it a i
  | false => h.IsListIter it a i
def HasX (h : Heap) (t : Bool) (a : Addr) (xs : Array Value) : Prop := match t with
  | true => h.IsTuple a xs
  | false => h.IsList a xs
theorem ItX.at {h h' : Heap} {t : Bool} {it a : Addr} {i : Nat} (x : ItX h t it a i) (k : ∀ o, h.get? it = some o → h'.get? it = some o) : ItX h' t it a i := by
  cases t with
  | true => exact Heap.IsTupleIter.at x k
  | false => exact Heap.IsListIter.at x k
theorem ItX.obj {h : Heap} {t : Bool} {it a : Addr} {i : Nat} (x : ItX h t it a i) : ∃ o, h.get? it = some o ∧ ∀ v, o.data ≠ .cell v := by
  cases t with
  | true => obtain ⟨o, e, _, d⟩ := x; exact ⟨o, e, fun v q => by rw [d] at q; cases q⟩
  | false => obtain ⟨o, e, _, d⟩ := x; exact ⟨o, e, fun v q => by rw [d] at q; cases q⟩
theorem drawsX {prog : Program} {w : World} {A : Around} (hh : A.handled = none) (t : Bool) (it a : Addr) (hne : a ≠ it) (items : Array Value) :
    Draws prog w A it [it, a] items.size (fun i v => items[i]? = some v) (fun i h => ItX h t it a i ∧ HasX h t a items) := by
  cases t with
  | true => exact Draws.tuple hh it a hne items
  | false => exact Draws.list hh it a hne items
theorem Inv.seqX {X : Cx} {pins : List (Addr × Obj)} {σ : L2.St} {H : Hp} {s : Shared} {t : Bool} {a : Addr} {xs : List V} (I : Inv X pins σ H s) (h : SqX X.K H t a xs) : ∃ its, Vals xs its ∧ HasX s.heap t a its.toArray := by
  cases t with
  | true => obtain ⟨its, r, p, _⟩ := I.tuple h; exact ⟨its, r, p⟩
  | false => obtain ⟨its, r, p, _⟩ := I.list h; exact ⟨its, r, p.isList⟩
theorem HasX.lt {h : Heap} {t : Bool} {a : Addr} {xs : Array Value} (x : HasX h t a xs) : a < h.objs.size := by
  cases t with
  | true => obtain ⟨o, e, _⟩ := x; exact Heap.lt_size e
  | false => obtain ⟨o, e, _⟩ := x; exact Heap.lt_size e
theorem Inv.seqX_inj {X : Cx} {pins : List (Addr × Obj)} {σ : L2.St} {H : Hp} {s : Shared} {t : Bool} {a : Addr} {xs ys : List V} (I : Inv X pins σ H s) (h : SqX X.K H t a xs) (k : SqX X.K H t a ys) : xs = ys := by
  cases t with
  | true => exact I.tuple_inj h k
  | false => exact I.list_inj h k
def ItzX (K : PySem.W.Frag) (t1 t2 : Bool) (a b : Addr) : It :=
  ⟨fun i H => ∃ (xs ys : List V) (x y : V), SqX K H t1 a xs ∧ SqX K H t2 b ys ∧ xs[i]? = some x ∧ ys[i]? = some y,
    fun i H v H' => ∃ T x y, v = .ref T ∧ H T = none ∧ H' = upd H T (.tup [x, y]) ∧ (∀ xs, SqX K H t1 a xs → xs[i]? = some x) ∧ ∀ ys, SqX K H t2 b ys → ys[i]? = some y,
    fun i H => ∃ xs ys : List V, SqX K H t1 a xs ∧ SqX K H t2 b ys ∧ i ≤ xs.length ∧ i ≤ ys.length ∧ (i = xs.length ∨ i = ys.length)⟩
theorem sep2 {z TI TO i1 i2 a b : Addr} (D : ZipApart z TI TO i1 i2 a b) : ZipSep2 z TI TO i1 i2 [i1, a] [i2, b] where
  TIz := D.TIz
  TOz := D.TOz
  TITO := D.TITO
  TIi1 := D.TIi1
  mem1 := by simp
  zf1 := by simp [D.i1z.symm, D.l1z.symm]
  Tf1 := by simp [D.TOi1, D.l1TO.symm]
  TIi2 := D.TIi2
  mem2 := by simp
  zf2 := by simp [D.i2z.symm, D.l2z.symm]
  Tf2 := by simp [D.TOi2, D.l2TO.symm]
  sep1_2 := by simp [D.i12, D.l2i1.symm]
  sep2_1 := by simp [D.i12.symm, D.l1i2.symm]
theorem turn_zipX {P : Program} {w : World} {K : PySem.W.Frag} {elts : List Expr} {kk : Nat} {tpos : Pos} {t1 t2 : Bool} {a b z TI TO i1 i2 : Addr} (D : ZipApart z TI TO i1 i2 a b) :
    Turn P w K (.Tuple elts kk tpos) (ItzX K t1 t2 a b) [z, TI, TO, i1, i2] z (fun i h => IsZip h z TI TO .none ∧ IsTupOf2 h TI (.ref i1) (.ref i2) ∧ (∃ x y, IsTupOf2 h TO x y) ∧ ItX h t1 i1 a i ∧ ItX h t2 i2 b i) where
  mem := by simp
  obj := fun i h st c hc => by
    obtain ⟨hz, hTI, ⟨x, y, hTO⟩, h1, h2⟩ := st
    have e' : c = z ∨ c = TI ∨ c = TO ∨ c = i1 ∨ c = i2 := by simpa using hc
    rcases e' with q | q | q | q | q
    · rw [q]; exact ⟨_, hz, fun v q => nomatch q⟩
    · rw [q]; exact ⟨_, hTI, fun v q => nomatch q⟩
    · rw [q]; exact ⟨_, hTO, fun v q => nomatch q⟩
    · rw [q]; exact h1.obj
    · rw [q]; exact h2.obj
  keep := fun i h h' st k => by
    obtain ⟨hz, hTI, ⟨x, y, hTO⟩, h1, h2⟩ := st
    exact ⟨k z (by simp) _ hz, k TI (by simp) _ hTI, ⟨x, y, k TO (by simp) _ hTO⟩, h1.at fun o q => k i1 (by simp) o q, h2.at fun o q => k i2 (by simp) o q⟩
  item := by
    intro X hP hw hK hc i pins s σ H E I hf st hg
    subst hP hw hK
    obtain ⟨hz, hTI, ⟨x0, y0, hTO⟩, h1, h2⟩ := st
    obtain ⟨xs, ys, x, y, hqx, hqy, hx, hy⟩ := hg
    obtain ⟨its, rv, p⟩ := Inv.seqX I hqx
    obtain ⟨its2, rv2, p2⟩ := Inv.seqX I hqy
    obtain ⟨u, hu, ru⟩ := rv.get hx
    obtain ⟨u2, hu2, ru2⟩ := rv2.get hy
    have hzl : z < s.heap.objs.size := Heap.lt_size hz
    have hh : X.A.handled = none := I.ok.hd hc
    have lt1 : i < its.toArray.size := by
      have := (List.getElem?_eq_some_iff.mp hu).1; simpa using this
    have lt2 : i < its2.toArray.size := by
      have := (List.getElem?_eq_some_iff.mp hu2).1; simpa using this
    have hT : s.TypeIs (.ref z) "zip" := ⟨_, hz, rfl⟩
    have D1 := drawsX (prog := X.prog) (w := X.w) (A := X.A.in1) hh t1 i1 a D.l1i1 its.toArray
    have D2 := drawsX (prog := X.prog) (w := X.w) (A := X.A.in1) hh t2 i2 b D.l2i2 its2.toArray
    have main : wpAny (model X.prog X.w) X.A (pyNext (.ref z)) (fun r s1 => ∃ u, r = some u ∧ wpAny (model X.prog X.w) X.A (letOwnedTupleGo (.Tuple elts kk tpos) (.ref z) u) (fun _ s2 => ∃ x H', Inv X pins σ H' s2 ∧ RelV x u ∧ (ItzX X.K t1 t2 a b).yld i H x H' ∧
        (IsZip s2.heap z TI TO .none ∧ IsTupOf2 s2.heap TI (.ref i1) (.ref i2) ∧ (∃ x y, IsTupOf2 s2.heap TO x y) ∧ ItX s2.heap t1 i1 a (i + 1) ∧ ItX s2.heap t2 i2 b (i + 1)) ∧ ∀ b ∈ [z, TI, TO, i1, i2], H' b = none) E s1) E s := by
      unfold pyNext
      refine wpAny_bind (wpAny_attempt (wpAny_callSpecial?_slot (name := Str.ofString "__next__") hT F.slot_zip_next
        (wpAny_call_entry F.slot_zip_next hT F.entry_zip_next
          (zipD2_next_item (sep2 D) D1 D2 hz hTI hTO ⟨h1, p⟩ ⟨h2, p2⟩ lt1 lt2
            fun v1 v2 h' tk q1 q2 z' TO' h1' h2' hT hsz hk => wpAny_pure ?_) (F.args_zip_next_1 _))))
      have e1 : v1 = u := by
        have q1 : its.toArray[i]? = some v1 := q1
        rw [List.getElem?_toArray, hu] at q1; exact (Option.some.inj q1).symm
      have e2 : v2 = u2 := by
        have q2 : its2.toArray[i]? = some v2 := q2
        rw [List.getElem?_toArray, hu2] at q2; exact (Option.some.inj q2).symm
      subst e1 e2
      refine ⟨_, rfl, wpAny_letOwnedTupleGo_zip (s := { s with heap := h', toks := tk }) z' fun h'' z'' sb => ?_⟩
      have hT2 : h''.get? s.heap.objs.size = some { cls := .type "tuple", data := .seq #[v1, v2] } := (sb.2 _ (Nat.ne_of_gt hzl)).trans hT
      have new : ObjOk X.prog X.w (upd H s.heap.objs.size (.tup [x, y])) h'' s.heap.objs.size (.tup [x, y]) :=
        ⟨by show 2 ≤ sizeLine; decide, [v1, v2], .cons ru (.cons ru2 .nil), ⟨_, hT2, rfl, _, rfl⟩⟩
      have I1 : Inv X pins σ (upd H s.heap.objs.size (.tup [x, y])) { s with heap := h'', toks := tk } :=
        I.turnedNew (t' := tk) (ch := [z, TI, TO, i1, i2]) (fun c o hb q => (sb.2 c (fun q' => hb (by simp [q']))).trans (hk c o (fun q' => hb (by simp [q'])) (fun q' => hb (by simp [q'])) (fun q' => hb (by simp [q'])) (fun q' => hb (by simp [q'])) q)) hf (Nat.le_refl _) new
      refine ⟨.ref s.heap.objs.size, _, I1, rfl, ⟨_, x, y, rfl, I.hok.fresh (Nat.le_refl _), rfl, fun l hl => by rw [Inv.seqX_inj I hl hqx]; exact hx, fun l hl => by rw [Inv.seqX_inj I hl hqy]; exact hy⟩, ⟨z'', ?_, ⟨v1, v2, ?_⟩, ?_, ?_⟩, fun c hcm => ?_⟩
      · exact (sb.2 _ D.TIz).trans (hk _ _ D.TIz D.TITO D.TIi1 D.TIi2 hTI)
      · exact (sb.2 _ D.TOz).trans TO'
      · exact h1'.1.at fun o q => (sb.2 _ D.i1z).trans q
      · exact h2'.1.at fun o q => (sb.2 _ D.i2z).trans q
      · have hlt : c < s.heap.objs.size := by
          have e' : c = z ∨ c = TI ∨ c = TO ∨ c = i1 ∨ c = i2 := by simpa using hcm
          rcases e' with q | q | q | q | q
          · rw [q]; exact hzl
          · rw [q]; exact Heap.lt_size hTI
          · rw [q]; exact Heap.lt_size hTO
          · rw [q]; obtain ⟨_, e1, _⟩ := h1.obj; exact Heap.lt_size e1
          · rw [q]; obtain ⟨_, e2, _⟩ := h2.obj; exact Heap.lt_size e2
        rw [upd_ne (Nat.ne_of_lt hlt)]
        exact (hf c hcm).1
    exact main
  done := by
    intro X hP hw hK hc i pins s σ H E I hf st hg
    subst hP hw hK
    obtain ⟨hz, hTI, ⟨x0, y0, hTO⟩, h1, h2⟩ := st
    obtain ⟨xs, ys, hqx, hqy, l1, l2, hend⟩ := hg
    obtain ⟨its, rv, p⟩ := Inv.seqX I hqx
    obtain ⟨its2, rv2, p2⟩ := Inv.seqX I hqy
    have n1 := rv.length
    have n2 := rv2.length
    have hh : X.A.handled = none := I.ok.hd hc
    have hT : s.TypeIs (.ref z) "zip" := ⟨_, hz, rfl⟩
    have D1 := drawsX (prog := X.prog) (w := X.w) (A := X.A.in1) hh t1 i1 a D.l1i1 its.toArray
    have D2 := drawsX (prog := X.prog) (w := X.w) (A := X.A.in1) hh t2 i2 b D.l2i2 its2.toArray
    unfold pyNext
    refine wpAny_bind (wpAny_attempt (wpAny_callSpecial?_slot (name := Str.ofString "__next__") hT F.slot_zip_next
      (wpAny_call_entry F.slot_zip_next hT F.entry_zip_next
        (zipD2_next_end (i := i) (sep2 D) D1 D2 hz hTI hTO ⟨h1, p⟩ ⟨h2, p2⟩ (by simp; omega) (by simp; omega)
          (by rcases hend with q | q
              · exact .inl (by simp; omega)
              · exact .inr (by simp; omega))
          fun h' tk e hk he => ?_) (F.args_zip_next_1 _))))
    obtain ⟨o, ho, hc⟩ := he
    refine wpAny_bind (wpAny_isInstance (T := "StopIteration") (b := true) ⟨o, ho, hc⟩ isSubtype_stop ?_)
    exact wpAny_pure ⟨rfl, I.turnedL (t' := tk) (ch := [z, TI, TO, i1, i2]) (fun c o hb q =>
      hk c o (fun q' => hb (by simp [q'])) (fun q' => hb (by simp [q'])) (fun q' => hb (by simp [q'])) (fun q' => hb (by simp [q'])) q) hf⟩
  self := fun A i s Q E st h => wpAny_pyIter_zip st.1 h
def bX (t : Bool) : Obj := match t with
  | true => { cls := .type "tuple_iterator", data := .fields #[.none, .int 0 0] }
  | false => { cls := .type "list_iterator", data := .fields #[.none, .int 0 0] }
theorem beginsX (t : Bool) (a : Addr) (items : Array Value) : ∃ o : Obj, Begins (.ref a) o (fun h => HasX h t a items) ∧ ∀ (h : Heap) (it : Addr), h.get? it = some o → ItX h t it a 0 := by
  cases t with
  | true => exact ⟨_, begins_tuple a items, fun h it e => ⟨_, e, rfl, rfl⟩⟩
  | false => exact ⟨_, begins_list a items, fun h it e => ⟨_, e, rfl, rfl⟩⟩
def iZipX (K : PySem.W.Frag) (ta : TA) : TI := fun σ H R => ta σ H fun vs H1 => ∃ t1 t2 a b xs ys, vs = [.ref a, .ref b] ∧ SqX K H1 t1 a xs ∧ SqX K H1 t2 b ys ∧ R (ItzX K t1 t2 a b) H1
theorem pi_zipX {X : Cx} {e e2 : Expr} {ta : TA} {p pos tpos : Pos} {elts : List Expr} {kk : Nat} (hg : Gl X "zip") (hm : X.mg "zip" = none) (ha : PA X [e, e2] ta)
    (hs : starEach [e, e2] X.env = (false, eval e X.env) :: starEach [e2] X.env := by rfl) (hpl : (backTo pos (starEach [e2] X.env)).any (·.1) = false := by rfl) :
    PI X (.Tuple elts kk tpos) (.Call (.Name "zip" p) [e, e2] [] pos) (iZipX X.K ta) := by
  refine ⟨fun pins s σ H R I h => ?_⟩
  refine Call_ (ld_blt I hg hm PyProof.Rows.boot_zip (PyProof.Rows.callWith_type1 (thn (ha.run pos pins s σ H _ I h) fun us s1 ⟨vs, H1, I1, r1, q1⟩ => ?_) hs hpl))
  obtain ⟨t1, t2, a, b, xs, ys, ex, hqx, hqy, q⟩ := q1
  subst ex
  cases r1 with
  | cons r rr =>
    cases rr with
    | cons r' rr =>
      cases rr
      cases r
      cases r'
      have fresh5 : ∀ c, c ∈ [s1.heap.objs.size + 4, s1.heap.objs.size + 2, s1.heap.objs.size + 3, s1.heap.objs.size, s1.heap.objs.size + 1] → FpOk X pins H1 c := fun c hcm => by
        have hle : s1.heap.objs.size ≤ c := by
          have e' : c = s1.heap.objs.size + 4 ∨ c = s1.heap.objs.size + 2 ∨ c = s1.heap.objs.size + 3 ∨ c = s1.heap.objs.size ∨ c = s1.heap.objs.size + 1 := by simpa using hcm
          omega
        exact I1.fpOk hle (I1.hok.fresh hle)
      obtain ⟨its, rv, p1⟩ := Inv.seqX I1 hqx
      obtain ⟨its2, rv2, p2⟩ := Inv.seqX I1 hqy
      obtain ⟨o1, B1, g1⟩ := beginsX t1 a its.toArray
      obtain ⟨o2, B2, g2⟩ := beginsX t2 b its2.toArray
      refine zip_begins2 B1 B2 p1 p2 fun h' hz hTI hTO e1 e2 hsz hk => wpAny_pyIter_zip hz ?_
      have I2 : Inv X pins σ H1 { s1 with heap := h' } := I1.kept (t' := s1.toks) hk
      exact ⟨s1.heap.objs.size + 4, [s1.heap.objs.size + 4, s1.heap.objs.size + 2, s1.heap.objs.size + 3, s1.heap.objs.size, s1.heap.objs.size + 1], _, _, H1, rfl, I2, turn_zipX (PySem.W.ktu_apart s1.heap.objs.size a b p1.lt p2.lt), ⟨hz, hTI, ⟨_, _, hTO⟩, g1 _ _ e1, g2 _ _ e2⟩, fresh5, q⟩
end CI
end
section
set_option maxRecDepth 100000
/-! CIZipS: zip and enumerate as sources. -/
namespace CI
open PySem L2 PyProof.Rows
def unlent : Rv → Option D
  | .val d => some d
  | .own d => some d
  | .bor _ => none
/-- an argument that is walked: an expression, a name -/
def qE (c : Mn Rv) : Mn D := bnd c fun r => ofO (unlent r)
def qV (i : Nat) : Mn D := fun ρ => match ρ[i]? with
  | some (.val d) => .ok d ρ
  | some (.bor d) => .ok d ρ
  | _ => .stuck
def zipD : List D → List D → List D
  | a :: as, b :: bs => .tup [a, b] :: zipD as bs
  | _, _ => []
def enumD : Nat → List D → List D
  | _, [] => []
  | n, a :: as => .tup [.int (n : Int), a] :: enumD (n + 1) as
def zipO (x y : D) : Option (List D) := match seqD x, seqD y with
  | some xs, some ys => some (zipD xs ys)
  | _, _ => none
def enumO : D → Option (List D)
  | .lst xs => some (enumD 0 xs)
  | _ => none
def ciZip (a b : Mn D) : Mn (List D) := bnd (cCons a (cCons b cNil)) fun ds => match ds with
  | [x, y] => ofO (zipO x y)
  | _ => stk
def ciEnum (a : Mn D) : Mn (List D) := bnd (cCons a cNil) fun ds => match ds with
  | [x] => ofO (enumO x)
  | _ => stk
theorem zipD_len : ∀ (xs ys : List D), (zipD xs ys).length = min xs.length ys.length
  | [], ys => by simp [zipD]
  | _ :: _, [] => by simp [zipD]
  | _ :: xs, _ :: ys => by simp [zipD, zipD_len xs ys]
theorem zipD_get : ∀ {xs ys : List D} {i : Nat} {d : D}, (zipD xs ys)[i]? = some d → ∃ a b, xs[i]? = some a ∧ ys[i]? = some b ∧ d = .tup [a, b]
  | [], ys, i, d, h => by simp [zipD] at h
  | _ :: _, [], i, d, h => by simp [zipD] at h
  | a :: xs, b :: ys, 0, d, h => by simp [zipD] at h; exact ⟨a, b, by simp, by simp, h.symm⟩
  | a :: xs, b :: ys, i + 1, d, h => by
    have h : (zipD xs ys)[i]? = some d := by simpa [zipD] using h
    obtain ⟨u, v, h1, h2, h3⟩ := zipD_get h
    exact ⟨u, v, by simpa using h1, by simpa using h2, h3⟩
theorem enumD_len : ∀ (n : Nat) (xs : List D), (enumD n xs).length = xs.length
  | _, [] => rfl
  | n, _ :: xs => by simp [enumD, enumD_len (n + 1) xs]
theorem enumD_get : ∀ {xs : List D} {n i : Nat} {d : D}, (enumD n xs)[i]? = some d → ∃ a, xs[i]? = some a ∧ d = .tup [.int ((n + i : Nat) : Int), a]
  | [], n, i, d, h => by simp [enumD] at h
  | a :: xs, n, 0, d, h => by simp [enumD] at h; exact ⟨a, by simp, by simpa using h.symm⟩
  | a :: xs, n, i + 1, d, h => by
    have h : (enumD (n + 1) xs)[i]? = some d := by simpa [enumD] using h
    obtain ⟨u, h1, h2⟩ := enumD_get h
    exact ⟨u, by simpa using h1, by rw [h2]; congr 4; omega⟩
def QOk (T : Tx) (G : Addr → Prop) (ρ : En) (σ : L2.St) (H Z : Hp) (v : V) (d : D) : Prop := RdOk T H Z v d ∧ ∀ a ds, d = .lst ds → v = .ref a → ¬ OwnA ρ σ a ∧ G a
def QsOk (T : Tx) (G : Addr → Prop) (ρ : En) (σ : L2.St) (H Z : Hp) : List V → List D → Prop
  | [], [] => True
  | v :: vs, d :: ds => QOk T G ρ σ H Z v d ∧ QsOk T G ρ σ H Z vs ds
  | _, _ => False
def kQ : Kd D V := ⟨fun T ρ σ H ρ' H' Z' v d => QOk T (From ρ σ H Z') ρ' σ H' Z' v d, fun s h => ⟨h.1, fun a ds e1 e2 => ⟨(h.2 a ds e1 e2).1, (h.2 a ds e1 e2).2.base s.step⟩⟩⟩
theorem QsOk.imp {T : Tx} {G G' : Addr → Prop} {ρ : En} {σ : L2.St} {H Z : Hp} (k : ∀ a, G a → G' a) : ∀ {vs : List V} {ds : List D}, QsOk T G ρ σ H Z vs ds → QsOk T G' ρ σ H Z vs ds
  | [], [], _ => trivial
  | _ :: _, _ :: _, h => ⟨⟨h.1.1, fun a ds e1 e2 => ⟨(h.1.2 a ds e1 e2).1, k a (h.1.2 a ds e1 e2).2⟩⟩, QsOk.imp k h.2⟩
  | [], _ :: _, h => h.elim
  | _ :: _, [], h => h.elim
def kQs : Kd (List D) (List V) := ⟨fun T ρ σ H ρ' H' Z' vs ds => QsOk T (From ρ σ H Z') ρ' σ H' Z' vs ds, fun s h => QsOk.imp (fun a q => q.base s.step) h⟩
theorem QOk.mono {T : Tx} {ρ0 ρ ρ1 : En} {σ : L2.St} {H0 H H1 Z Z1 : Hp} {v : V} {d : D} (h : QOk T (From ρ0 σ H0 Z) ρ σ H Z v d) (E : EStep ρ σ H Z ρ1 H1 Z1) : QOk T (From ρ0 σ H0 Z1) ρ1 σ H1 Z1 v d :=
  ⟨h.1.mono E.same E.step.le, fun a ds ed e => ⟨fun q => (h.2 a ds ed e).1 (E.ownE a q), (h.2 a ds ed e).2.elim .inl fun q => q.elim (fun ⟨o, z⟩ => .inr (.inl ⟨o, E.step.le a o z⟩)) fun z => .inr (.inr z)⟩⟩
section
variable {α β γ δ : Type} {T : Tx} {ρ0 ρ ρ1 : En} {σ : L2.St} {H0 H H1 Z0 Z Z1 : Hp} {W : WX}
/-- .. as seen from an earlier state -/
def PoB (k : Kd α β) (T : Tx) (ρ0 : En) (H0 : Hp) (ρ : En) (σ : L2.St) (H Z : Hp) (o : Out α) (W : WX) (Q : β → Hp → Prop) : Prop := match o with
  | .ok a ρ' => ∀ b H' Z', SOk T ρ' σ H' Z' → EStep ρ σ H Z ρ' H' Z' → k.ok T ρ0 σ H0 ρ' H' Z' b a → Q b H'
  | .exc x ρ' => ∀ cls d H' Z', SOk T ρ' σ H' Z' → EStep ρ σ H Z ρ' H' Z' → XOk T Z' x cls d → W cls d σ H'
  | .stuck => False
theorem Po.b {k : Kd α β} {o : Out α} {Q : β → Hp → Prop} (h : Po k T ρ σ H Z o W Q) : PoB k T ρ H ρ σ H Z o W Q := h
theorem PoB.bnd {k1 : Kd α β} {k2 : Kd γ δ} {m : Mn α} {f : α → Mn γ} {Q : δ → Hp → Prop} {R : β → Hp → Prop} (h : PoB k2 T ρ0 H0 ρ σ H Z (bnd m f ρ) W Q) (s0 : EStep ρ0 σ H0 Z0 ρ H Z)
    (hk : ∀ r b ρ1 H1 Z1, SOk T ρ1 σ H1 Z1 → EStep ρ σ H Z ρ1 H1 Z1 → k1.ok T ρ0 σ H0 ρ1 H1 Z1 b r → PoB k2 T ρ0 H0 ρ1 σ H1 Z1 (f r ρ1) W Q → R b H1) : Po k1 T ρ σ H Z (m ρ) W R := by
  unfold CI.bnd at h
  cases e : m ρ with
  | ok a ρ' =>
    rw [e] at h
    intro b H' Z' S E q
    refine hk a b ρ' H' Z' S E (k1.base s0 q) ?_
    simp only at h
    cases e2 : f a ρ' with
    | ok c ρ2 => rw [e2] at h; exact fun b2 H2 Z2 S2 E2 q2 => h b2 H2 Z2 S2 (E.trans E2) q2
    | exc x ρ2 => rw [e2] at h; exact fun cls d H2 Z2 S2 E2 q2 => h cls d H2 Z2 S2 (E.trans E2) q2
    | stuck => rw [e2] at h; exact h
  | exc x ρ' => rw [e] at h; exact h
  | stuck => rw [e] at h; exact h
theorem PoB.out {k : Kd α β} {a : α} {b : β} {Q : β → Hp → Prop} (h : PoB k T ρ0 H0 ρ σ H Z (ret a ρ) W Q) (S : SOk T ρ σ H Z) (q : k.ok T ρ0 σ H0 ρ H Z b a) : Q b H := h b H Z S (.refl _ _ _ _) q
theorem PoB.ofO {k : Kd α β} {o : Option α} {Q : β → Hp → Prop} (h : PoB k T ρ0 H0 ρ σ H Z (CI.ofO o ρ) W Q) : ∃ a, o = some a ∧ PoB k T ρ0 H0 ρ σ H Z (ret a ρ) W Q := by
  cases o with
  | none => exact h.elim
  | some a => exact ⟨a, rfl, h⟩
end
structure SQ (X : Cx) (e : Expr) (c : Mn D) : Prop where
  run : ∀ W, Takes X W → PE X e (tK kQ (tx X) W c)
structure SQs (X : Cx) (es : List Expr) (c : Mn (List D)) : Prop where
  run : ∀ W, Takes X W → PA X es (tK kQs (tx X) W c)
section
variable {X : Cx} {a b e : Expr} {es : List Expr} {c : Mn Rv} {ca cb : Mn D} {cs : Mn (List D)} {i : Nat} {x : Str} {p pos tpos : Pos}
theorem sq_e (h : SE X e c) : SQ X e (qE c) := by
  refine ⟨fun W tk => peI (h.run W tk) fun σ H Q ⟨ρ, Z, S, p⟩ => ⟨ρ, Z, S, ?_⟩⟩
  unfold qE CI.bnd at p
  cases q : c ρ with
  | stuck => rw [q] at p; exact p
  | exc x ρ' => rw [q] at p; exact p
  | ok r ρ' =>
    rw [q] at p
    cases r with
    | bor d => exact p.elim
    | val d =>
      intro v H' Z' S' E' o'
      refine p v H' Z' S' E' ⟨.inl o', fun a ds ed ev => ?_⟩
      subst ed
      obtain ⟨b, vs, e1, q1, _⟩ := (show Rep (tx X) Z' (.lst ds) v from o')
      cases e1
      cases ev
      exact ⟨rep_notOwn S' q1, .inr (.inl (rd_some q1))⟩
    | own d =>
      intro v H' Z' S' E' o'
      refine p v H' Z' S' E' ⟨RvOk.read (r := .own d) o', fun a ds ed ev => ?_⟩
      obtain ⟨a', ea, r, z, n, n1, n2, n3⟩ := o'
      subst ea
      cases ev
      exact ⟨n1, .inl n⟩
theorem sq_v (hN : X.N[i]? = some x) (hv : Vis X.env.scope x) (hd : (x == ("__debug__" : Str)) = false := by decide) (hcd : (x == ("__classdict__" : Str)) = false := by decide) : SQ X (.Name x pos) (qV i) := by
  refine ⟨fun W tk => peI (pe_var hN hv hd hcd) (tE_of fun ρ σ H Z Q S p => ?_)⟩
  unfold qV at p
  cases q : ρ[i]? with
  | none => rw [q] at p; exact p.elim
  | some s =>
    have z := S.slotAt q
    rw [q] at p
    cases s with
    | emp => exact p.elim
    | exn _ => exact p.elim
    | own d => exact p.elim
    | val d =>
      obtain ⟨v, ev, r⟩ := z
      refine ⟨v, ev, Po.out (k := kQ) (a := d) p S ⟨.inl r, fun a ds ed ev => ?_⟩⟩
      subst ed
      obtain ⟨b, vs, e1, q1, _⟩ := r
      cases e1
      cases ev
      exact ⟨rep_notOwn S q1, .inr (.inl (rd_some q1))⟩
    | bor d =>
      obtain ⟨a, ev, r⟩ := z
      exact ⟨_, ev, Po.out (k := kQ) (a := d) p S ⟨.inr ⟨a, rfl, r⟩, fun a' ds ed ea => by cases ea; exact ⟨fun w => S.sep a w ⟨i, _, q, ev⟩, .inr (.inr ⟨i, _, q, ev⟩)⟩⟩⟩
theorem sqs_nil : SQs X [] cNil := ⟨fun W tk => paI pa_nil (tE_of fun ρ σ H Z Q S p => Po.out (k := kQs) (b := []) (a := []) p S trivial)⟩
theorem sqs_cons (ha : SQ X a ca) (hr : SQs X es cs) (hs : starEach (a :: es) X.env = (false, eval a X.env) :: starEach es X.env := by rfl) : SQs X (a :: es) (cCons ca cs) :=
  ⟨fun W tk => paI (pa_cons (ha.run W tk) (hr.run W tk) hs) (tE_of fun ρ σ H Z Q S p => ⟨ρ, Z, S, PoB.bnd (k1 := kQ) (Po.b p) (.refl ρ σ H Z) fun r v ρ1 H1 Z1 S1 E1 o1 p1 =>
    ⟨ρ1, Z1, S1, PoB.bnd (k1 := kQs) p1 E1 fun rs vs ρ2 H2 Z2 S2 E2 o2 p2 => PoB.out (k := kQs) (b := v :: vs) (a := r :: rs) p2 S2 ⟨QOk.mono o1 E2, o2⟩⟩⟩)⟩
/-- how a walked argument stands -/
theorem qOk_seq {T : Tx} {G : Addr → Prop} {ρ : En} {σ : L2.St} {H Z : Hp} {v : V} {d : D} {ds : List D} (S : SOk T ρ σ H Z) (h : QOk T G ρ σ H Z v d) (e : seqD d = some ds) : ∃ (t : Bool) (a : Addr) (vs : List V) (P : List Addr), v = .ref a ∧ Reps T Z ds vs ∧ (∀ b ∈ P, (∃ o, H b = some o) ∧ ¬ OwnA ρ σ b ∧ G b) ∧
    ∀ H1 Z1, (∀ b ∈ P, H1 b = H b) → Le Z Z1 → Le Z1 H1 → SqX T.K H1 t a vs := by
  cases d with
  | tup xs =>
    cases e
    obtain ⟨a, vs, ev, q, r⟩ := h.1.elim id fun ⟨_, _, z⟩ => z.elim
    exact ⟨true, a, vs, [], ev, r, fun b hb => by simp at hb, fun H1 Z1 _ h2 h3 => h3.sqT (h2.sqT q)⟩
  | lst xs =>
    cases e
    obtain ⟨a, vs, ev, q, r⟩ := rd_lst S.sub h.1
    refine ⟨false, a, vs, [a], ev, r, fun b hb => ?_, fun H1 Z1 h1 h2 h3 => ?_⟩
    · obtain rfl : b = a := by simpa using hb
      exact ⟨q.elim (fun e => ⟨_, e⟩) fun ⟨_, e⟩ => ⟨_, e⟩, h.2 b _ rfl ev⟩
    · have e := h1 a (by simp)
      exact .inl (q.elim (fun q => .inl (e.trans q)) fun ⟨o, q⟩ => .inr ⟨o, e.trans q⟩)
  | _ => cases e
theorem si_zip {elts : List Expr} {kk : Nat} (hg : Gl X "zip") (hm : X.mg "zip" = none) (ha : SQ X a ca) (hb : SQ X b cb) (hs : starEach [a, b] X.env = (false, eval a X.env) :: starEach [b] X.env := by rfl) (hs2 : starEach [b] X.env = (false, eval b X.env) :: starEach [] X.env := by rfl) (hpl : (backTo pos (starEach [b] X.env)).any (·.1) = false := by rfl) :
    SI X (.Tuple elts kk tpos) (.Call (.Name "zip" p) [a, b] [] pos) (ciZip ca cb) :=
  ⟨fun W tk => piI (pi_zipX hg hm ((sqs_cons ha (sqs_cons hb sqs_nil hs2) hs).run W tk) hs hpl) fun σ H R ⟨ρ, Z, S, p⟩ => ⟨ρ, Z, S, PoB.bnd (k1 := kQs) (Po.b p) (.refl ρ σ H Z) fun rs vs ρ1 H1 Z1 S1 E1 o1 p1 => by
    match rs, vs, o1, p1 with
    | [x, y], [v, w], o1, p1 =>
      obtain ⟨ds, e, p2⟩ := PoB.ofO p1
      unfold zipO at e
      split at e
      · rename_i xs ys hx hy
        cases e
        obtain ⟨t1, a1, vs1, P1, rfl, r1, k1, s1⟩ := qOk_seq S1 o1.1 hx
        obtain ⟨t2, a2, vs2, P2, rfl, r2, k2, s2⟩ := qOk_seq S1 o1.2.1 hy
        refine ⟨t1, t2, a1, a2, vs1, vs2, rfl, s1 H1 Z1 (fun _ _ => rfl) (.refl _) S1.sub, s2 H1 Z1 (fun _ _ => rfl) (.refl _) S1.sub, p2 _ H1 Z1 S1 (.refl _ _ _ _) ⟨P1 ++ P2, fun b hb => ?_, fun H2 Z2 h1 h2 h3 => ?_⟩⟩
        · rcases List.mem_append.mp hb with q | q
          · exact k1 b q
          · exact k2 b q
        · have q1 := s1 H2 Z2 (fun b hb => h1 b (List.mem_append_left _ hb)) h2 h3
          have q2 := s2 H2 Z2 (fun b hb => h1 b (List.mem_append_right _ hb)) h2 h3
          have l1 := r1.length
          have l2 := r2.length
          refine ⟨⟨vs1, vs2, q1, q2, by rw [zipD_len]; omega, by rw [zipD_len]; omega, by rw [zipD_len]; omega⟩, fun i d hd => ?_⟩
          obtain ⟨d1, d2, g1, g2, rfl⟩ := zipD_get hd
          obtain ⟨v1, e1, rp1⟩ := r1.get g1
          obtain ⟨v2, e2, rp2⟩ := r2.get g2
          refine ⟨⟨vs1, vs2, v1, v2, q1, q2, e1, e2⟩, fun x H3 ⟨Tp, x1, x2, ex, hT, eH, hx1, hx2⟩ => ?_⟩
          subst ex eH
          have n1 := hx1 vs1 q1
          have n2 := hx2 vs2 q2
          rw [e1] at n1
          rw [e2] at n2
          cases n1
          cases n2
          have zT : Z2 Tp = none := by
            cases ez : Z2 Tp with
            | none => rfl
            | some o => rw [h3 _ _ ez] at hT; cases hT
          refine ⟨upd_le hT, upd Z2 Tp (.tup [v1, v2]), upd_le zT, fun b u e => ?_, fun b u e => ?_, Tp, [v1, v2], rfl, .of upd_same, v1, [v2], rfl, (rp1.mono h2).mono (upd_le zT), v2, [], rfl, (rp2.mono h2).mono (upd_le zT), rfl⟩
          · by_cases hb : b = Tp
            · subst hb; rw [upd_same] at e ⊢; exact e
            · rw [upd_ne hb] at e ⊢; exact h3 _ _ e
          · by_cases hb : b = Tp
            · subst hb; exact .inr hT
            · rw [upd_ne hb] at e; exact .inl e
      · cases e
    | [], [], _, p1 => exact p1.elim
    | [_], [_], _, p1 => exact p1.elim
    | _ :: _ :: _ :: _, _, _, p1 => exact p1.elim⟩⟩
theorem si_enum {elts : List Expr} {kk : Nat} (hg : Gl X "enumerate") (hm : X.mg "enumerate" = none) (ha : SQ X a ca) (hs : starEach [a] X.env = [(false, eval a X.env)] := by rfl) :
    SI X (.Tuple elts kk tpos) (.Call (.Name "enumerate" p) [a] [] pos) (ciEnum ca) :=
  ⟨fun W tk => piI (pi_enum hg hm ((sqs_cons ha sqs_nil hs).run W tk) hs) fun σ H R ⟨ρ, Z, S, p⟩ => ⟨ρ, Z, S, PoB.bnd (k1 := kQs) (Po.b p) (.refl ρ σ H Z) fun rs vs ρ1 H1 Z1 S1 E1 o1 p1 => by
    match rs, vs, o1, p1 with
    | [x], [v], o1, p1 =>
      obtain ⟨ds, e, p2⟩ := PoB.ofO p1
      unfold enumO at e
      split at e
      · rename_i xs
        cases e
        obtain ⟨a1, vs1, rfl, qr, r1⟩ := rd_lst S1.sub o1.1.1
        have hn := o1.1.2 a1 _ rfl rfl
        refine ⟨a1, vs1, rfl, .inl qr, p2 _ H1 Z1 S1 (.refl _ _ _ _) ⟨[a1], fun b hb => ?_, fun H2 Z2 h1 h2 h3 => ?_⟩⟩
        · obtain rfl : b = a1 := by simpa using hb
          exact ⟨qr.elim (fun e => ⟨_, e⟩) fun ⟨_, e⟩ => ⟨_, e⟩, hn⟩
        · have e := h1 a1 (by simp)
          have q1 : SqL (tx X).K H2 a1 vs1 := .inl (qr.elim (fun q => .inl (e.trans q)) fun ⟨o, q⟩ => .inr ⟨o, e.trans q⟩)
          have l1 := r1.length
          refine ⟨⟨vs1, q1, by rw [enumD_len]; omega⟩, fun i d hd => ?_⟩
          obtain ⟨d1, g1, rfl⟩ := enumD_get hd
          obtain ⟨v1, e1, rp1⟩ := r1.get g1
          refine ⟨⟨vs1, v1, q1, e1⟩, fun x H3 ⟨Tp, x1, ex, hT, eH, hx1⟩ => ?_⟩
          subst ex eH
          have n1 := hx1 vs1 q1
          rw [e1] at n1
          cases n1
          have zT : Z2 Tp = none := by
            cases ez : Z2 Tp with
            | none => rfl
            | some o => rw [h3 _ _ ez] at hT; cases hT
          refine ⟨upd_le hT, upd Z2 Tp (.tup [.int (i : Nat), v1]), upd_le zT, fun b u e => ?_, fun b u e => ?_, Tp, [.int (i : Nat), v1], rfl, .of upd_same, .int (i : Nat), [v1], rfl, by rw [Nat.zero_add]; rfl, v1, [], rfl, (rp1.mono h2).mono (upd_le zT), rfl⟩
          · by_cases hb : b = Tp
            · subst hb; rw [upd_same] at e ⊢; exact e
            · rw [upd_ne hb] at e ⊢; exact h3 _ _ e
          · by_cases hb : b = Tp
            · subst hb; exact .inr hT
            · rw [upd_ne hb] at e; exact .inl e
      · cases e
    | [], [], _, p1 => exact p1.elim
    | _ :: _ :: _, _, _, p1 => exact p1.elim⟩⟩
end
end CI
end
section
set_option maxRecDepth 100000
/-! CIBlt: calls of built-in functions and types; f-strings; methods of texts. -/
namespace CI
open PySem L2 PyProof.Rows
def cBlt (f : List D → Option Rv) (cs : Mn (List Rv)) : Mn Rv := bnd cs fun rs => ofO (f (rs.map Rv.d))
def uD (g : D → Option Rv) : List D → Option Rv
  | [a] => g a
  | _ => none
def bD (g : D → D → Option Rv) : List D → Option Rv
  | [a, b] => g a b
  | _ => none
structure FitsC (X : Cx) (r : List V → Hp → VK → Prop) (f : List D → Option Rv) : Prop where
  run : ∀ ρ σ H Z vs rs rv Q, SOk (tx X) ρ σ H Z → ArgsOk (tx X) H Z vs rs → f (rs.map Rv.d) = some rv →
    (∀ v H' Z', SOk (tx X) ρ σ H' Z' → EStep ρ σ H Z ρ H' Z' → RvOk (tx X) ρ σ H ρ H' Z' v rv → Q v H') → r vs H Q
section
variable {X : Cx} {e o : Expr} {es : List Expr} {c co ce : Mn Rv} {cs : Mn (List Rv)} {p pos apos : Pos} {x : Str} {r : List V → Hp → VK → Prop} {f : List D → Option Rv} {id T : String}
theorem FitsC.un {g : D → Option Rv} (h : ∀ ρ σ H Z d x rv (Q : VK), SOk (tx X) ρ σ H Z → RdOk (tx X) H Z x d → g d = some rv →
    (∀ v H' Z', SOk (tx X) ρ σ H' Z' → EStep ρ σ H Z ρ H' Z' → RvOk (tx X) ρ σ H ρ H' Z' v rv → Q v H') → r [x] H Q) : FitsC X r (uD g) := by
  refine ⟨fun ρ σ H Z vs rs rv Q S a e k => ?_⟩
  match vs, rs, a with
  | [v], [q], a => exact h _ _ _ _ _ _ _ _ S (arg_rd a.1) e k
  | [], [], _ => cases e
  | _ :: _ :: _, _ :: _ :: _, _ => cases e
theorem FitsC.uI {g : D → Option Rv} (h : ∀ d rv x H Z, g d = some rv → Le Z H → RdOk (tx X) H Z x d → ∃ d', rv = .val d' ∧ ∃ v, (∀ T Z, Rep T Z d' v) ∧ ∀ Q : VK, Q v H → r [x] H Q) : FitsC X r (uD g) :=
  FitsC.un fun ρ σ H Z d x rv Q S h1 e k => by
    obtain ⟨d', rfl, v, q, w⟩ := h _ _ _ _ _ e S.sub h1
    exact w Q (k _ _ _ S (.refl _ _ _ _) (q _ _))
theorem FitsC.bi {g : D → D → Option Rv} (h : ∀ ρ σ H Z d d2 x y rv (Q : VK), SOk (tx X) ρ σ H Z → RdOk (tx X) H Z x d → RdOk (tx X) H Z y d2 → g d d2 = some rv →
    (∀ v H' Z', SOk (tx X) ρ σ H' Z' → EStep ρ σ H Z ρ H' Z' → RvOk (tx X) ρ σ H ρ H' Z' v rv → Q v H') → r [x, y] H Q) : FitsC X r (bD g) := by
  refine ⟨fun ρ σ H Z vs rs rv Q S a e k => ?_⟩
  match vs, rs, a with
  | [v, w], [q, q2], a => exact h _ _ _ _ _ _ _ _ _ _ S (arg_rd a.1) (arg_rd a.2.1) e k
  | [], [], _ => cases e
  | [_], [_], _ => cases e
  | _ :: _ :: _ :: _, _ :: _ :: _ :: _, _ => cases e
theorem blt_ok {W : WX} (hf : FitsC X r f) : ∀ σ H Q, tK kE (tx X) W (cBlt f cs) σ H Q → tCB r (tK kA (tx X) W cs) σ H Q := tE_of fun ρ σ H Z Q S p => ⟨ρ, Z, S, p.bnd (k1 := kA) fun rs vs ρ1 H1 Z1 S1 E1 o1 p1 => by
  obtain ⟨rv, e, p2⟩ := Po.ofO p1
  exact hf.run _ _ _ _ _ _ _ _ S1 o1 e fun v H' Z' S' E' o' => p2 v H' Z' S' E' o'⟩
theorem se_blt (hc : CallR X (.builtin id) r) (hf : FitsC X r f) (hg : Gl X x) (hm : X.mg x = none) (hv : bootBuiltins x = some (.builtin id)) (ha : SA X (e :: es) cs) (hn : x ≠ "__name__" := by decide) (hdb : (x == ("__debug__" : Str)) = false := by decide)
    (he : starEach (e :: es) X.env = (false, eval e X.env) :: starEach es X.env := by rfl) (hpl : (backTo pos (starEach es X.env)).any (·.1) = false := by rfl) : SE X (.Call (.Name x p) (e :: es) [] pos) (cBlt f cs) :=
  ⟨fun W tk => peI (pe_callB hc hg hm hv (ha.run W tk) hn hdb he hpl) (blt_ok hf)⟩
theorem se_bltT (hc : CallR X (.type T) r) (hf : FitsC X r f) (hg : Gl X x) (hm : X.mg x = none) (hv : bootBuiltins x = some (.type T)) (ha : SA X (e :: es) cs) (hn : x ≠ "__name__" := by decide) (hdb : (x == ("__debug__" : Str)) = false := by decide)
    (he : starEach (e :: es) X.env = (false, eval e X.env) :: starEach es X.env := by rfl) (hpl : (backTo pos (starEach es X.env)).any (·.1) = false := by rfl) : SE X (.Call (.Name x p) (e :: es) [] pos) (cBlt f cs) :=
  ⟨fun W tk => peI (pe_callTy hc hg hm hv (ha.run W tk) hn hdb he hpl) (blt_ok hf)⟩
/-! values -/
def gAbs : D → Option Rv
  | .int i => vI (if i < 0 then -i else i)
  | _ => none
def gMax2 : D → D → Option Rv
  | .int i, .int j => vI (if j > i then j else i)
  | _, _ => none
def gMin2 : D → D → Option Rv
  | .int i, .int j => vI (if j < i then j else i)
  | _, _ => none
def gInt : D → Option Rv
  | .int i => vI i
  | .bl b => vI (if b then 1 else 0)
  | .str x => if x.length ≤ 640 then (PySem.intText? x).bind vI else none
  | _ => none
def gBool : D → Option Rv
  | .int i => vB (i != 0)
  | .bl b => vB b
  | .lst xs => vB (!xs.isEmpty)
  | _ => none
def gStr : D → Option Rv
  | .int i => if i.natAbs.log2 < 1920 then vS (toString i) else none
  | .str x => vS x
  | _ => none
def gLen : D → Option Rv
  | .str x => if sz x.length then vI (x.length : Int) else none
  | .lst xs => vI (xs.length : Int)
  | .tup xs => vI (xs.length : Int)
  | _ => none
def gList : D → Option Rv
  | .lst xs => some (.own (.lst xs))
  | .tup xs => some (.own (.lst xs))
  | _ => none
def gTuple : D → Option Rv
  | .lst xs => some (.val (.tup xs))
  | .tup xs => some (.val (.tup xs))
  | _ => none
def intsD : List D → Option (List Int)
  | [] => some []
  | .int i :: ds => (intsD ds).map (i :: ·)
  | _ => none
def strsD : List D → Option (List Str)
  | [] => some []
  | .str i :: ds => (strsD ds).map (i :: ·)
  | _ => none
def lstD : D → Option (List D)
  | .lst ds => some ds
  | _ => none
def gSum (d : D) : Option Rv := ((lstD d).bind intsD).bind fun ns => vI ns.sum
def topI : Int → List Int → Int
  | m, [] => m
  | m, n :: ns => topI (if n > m then n else m) ns
def lowI : Int → List Int → Int
  | m, [] => m
  | m, n :: ns => lowI (if n < m then n else m) ns
def gMaxL (d : D) : Option Rv := ((lstD d).bind intsD).bind fun ns => match ns with
  | [] => none
  | n :: r => vI (topI n r)
def gMinL (d : D) : Option Rv := ((lstD d).bind intsD).bind fun ns => match ns with
  | [] => none
  | n :: r => vI (lowI n r)
theorem fits_abs : FitsC X (fun xs H Q => ∃ i, xs = [.int i] ∧ Q (.int (if i < 0 then -i else i)) H) (uD gAbs) := FitsC.uI fun d rv x H Z e s h => by
  unfold gAbs at e
  split at e
  · cases e; exact ⟨_, rfl, _, fun _ _ => rfl, fun Q q => ⟨_, by rw [rd_int h], q⟩⟩
  · cases e
theorem fits_max2 : FitsC X (fun xs H Q => ∃ i j, xs = [.int i, .int j] ∧ Q (.int (if j > i then j else i)) H) (bD gMax2) := FitsC.bi fun ρ σ H Z dx dy x y rv Q S h1 h2 e k => by
  unfold gMax2 at e
  split at e
  · cases e; exact ⟨_, _, by rw [rd_int h1, rd_int h2], k _ _ _ S (.refl _ _ _ _) rfl⟩
  · cases e
theorem fits_min2 : FitsC X (fun xs H Q => ∃ i j, xs = [.int i, .int j] ∧ Q (.int (if j < i then j else i)) H) (bD gMin2) := FitsC.bi fun ρ σ H Z dx dy x y rv Q S h1 h2 e k => by
  unfold gMin2 at e
  split at e
  · cases e; exact ⟨_, _, by rw [rd_int h1, rd_int h2], k _ _ _ S (.refl _ _ _ _) rfl⟩
  · cases e
def rInt : List V → Hp → VK → Prop := fun xs H Q => ((∃ i, xs = [.int i] ∧ Q (.int i) H) ∨ ∃ k, xs = [.bl k] ∧ Q (.int (if k then 1 else 0)) H) ∨ ∃ a n, xs = [.str a] ∧ PySem.intText? a = some n ∧ a.length ≤ 640 ∧ Q (.int n) H
theorem call_intA : CallR X (.type "int") rInt := CallR.or call_int1 call_int_str
theorem fits_int : FitsC X rInt (uD gInt) := FitsC.uI fun d rv x H Z e s h => by
  unfold gInt at e
  split at e
  · cases e; exact ⟨_, rfl, _, fun _ _ => rfl, fun Q q => .inl (.inl ⟨_, by rw [rd_int h], q⟩)⟩
  · cases e; exact ⟨_, rfl, _, fun _ _ => rfl, fun Q q => .inl (.inr ⟨_, by rw [rd_bl h], q⟩)⟩
  · rename_i y
    split at e
    · rename_i hl
      cases ht : PySem.intText? y with
      | none => rw [ht] at e; cases e
      | some n =>
        rw [ht] at e
        cases e
        exact ⟨_, rfl, _, fun _ _ => rfl, fun Q q => .inr ⟨_, n, by rw [rd_str h], ht, hl, q⟩⟩
    · cases e
  · cases e
def rBool (K : PySem.W.Frag) : List V → Hp → VK → Prop := fun xs H Q => ((∃ i, xs = [.int i] ∧ Q (.bl (i != 0)) H) ∨ ∃ k, xs = [.bl k] ∧ Q (.bl k) H) ∨ ∃ (a : Addr) (zs : List V), xs = [.ref a] ∧ SqL K H a zs ∧ Q (.bl (!zs.isEmpty)) H
theorem call_boolA : CallR X (.type "bool") (rBool X.K) := CallR.or call_bool1 call_boolL
theorem fits_bool : FitsC X (rBool X.K) (uD gBool) := FitsC.uI fun d rv x H Z e s h => by
  unfold gBool at e
  split at e
  · cases e; exact ⟨_, rfl, _, fun _ _ => rfl, fun Q q => .inl (.inl ⟨_, by rw [rd_int h], q⟩)⟩
  · cases e; exact ⟨_, rfl, _, fun _ _ => rfl, fun Q q => .inl (.inr ⟨_, by rw [rd_bl h], q⟩)⟩
  · rename_i xs
    cases e
    obtain ⟨a, vs, rfl, q1, r1⟩ := rd_lst s h
    have := r1.length
    refine ⟨_, rfl, .bl (!xs.isEmpty), fun _ _ => rfl, fun Q q => .inr ⟨a, vs, rfl, .inl q1, ?_⟩⟩
    have e : vs.isEmpty = xs.isEmpty := by cases xs <;> cases vs <;> first | rfl | simp at this
    rw [e]; exact q
  · cases e
def rStr : List V → Hp → VK → Prop := fun xs H Q => (∃ i, xs = [.int i] ∧ i.natAbs.log2 < 1920 ∧ Q (.str (toString i)) H) ∨ ∃ a, xs = [.str a] ∧ Q (.str a) H
theorem call_strA : CallR X (.type "str") rStr := CallR.or call_str_int SkE.call_str_str
theorem fits_str : FitsC X rStr (uD gStr) := FitsC.uI fun d rv x H Z e s h => by
  unfold gStr at e
  split at e
  · split at e
    · rename_i hl
      cases e; exact ⟨_, rfl, _, fun _ _ => rfl, fun Q q => .inl ⟨_, by rw [rd_int h], hl, q⟩⟩
    · cases e
  · cases e; exact ⟨_, rfl, _, fun _ _ => rfl, fun Q q => .inr ⟨_, by rw [rd_str h], q⟩⟩
  · cases e
theorem fits_len : FitsC X (fun xs H Q => ∃ x n, xs = [x] ∧ LenV X.K x H n ∧ Q (.int (n : Nat)) H) (uD gLen) := FitsC.uI fun d rv x H Z e s h => by
  unfold gLen at e
  split at e
  · split at e
    · rename_i hz
      cases e; exact ⟨_, rfl, _, fun _ _ => rfl, fun Q q => ⟨_, _, rfl, by rw [rd_str h]; exact ⟨of_decide_eq_true hz, rfl⟩, q⟩⟩
    · cases e
  · cases e
    obtain ⟨a, vs, rfl, q1, r1⟩ := rd_lst s h
    exact ⟨_, rfl, _, fun _ _ => rfl, fun Q q => ⟨_, _, rfl, .inl ⟨vs, .inl q1, r1.length⟩, q⟩⟩
  · cases e
    obtain ⟨a, vs, rfl, q1, r1⟩ := rd_tup s h
    exact ⟨_, rfl, _, fun _ _ => rfl, fun Q q => ⟨_, _, rfl, .inr ⟨vs, q1, r1.length⟩, q⟩⟩
  · cases e
theorem fits_list : FitsC X (fun xs H Q => ∃ p ys, xs = [.ref p] ∧ (SqL X.K H p ys ∨ SqT X.K H p ys) ∧ ∀ l, H l = none → Q (.ref l) (upd H l (.lst ys))) (uD gList) := FitsC.un fun ρ σ H Z d x rv Q S h e k => by
  unfold gList at e
  split at e
  · cases e
    obtain ⟨a, vs, rfl, q1, r1⟩ := rd_lst S.sub h
    exact ⟨a, vs, rfl, .inl (.inl q1), fun l hl => k _ _ _ (S.new hl) (EStep.new hl) (rv_lst S hl r1)⟩
  · cases e
    obtain ⟨a, vs, rfl, q1, r1⟩ := rd_tup S.sub h
    exact ⟨a, vs, rfl, .inr q1, fun l hl => k _ _ _ (S.new hl) (EStep.new hl) (rv_lst S hl r1)⟩
  · cases e
theorem fits_tuple : FitsC X (fun xs H Q => ∃ p ys, xs = [.ref p] ∧ ((SqL X.K H p ys ∧ ∀ l, H l = none → Q (.ref l) (upd H l (.tup ys))) ∨ (SqT X.K H p ys ∧ Q (.ref p) H))) (uD gTuple) := FitsC.un fun ρ σ H Z d x rv Q S h e k => by
  unfold gTuple at e
  split at e
  · cases e
    obtain ⟨a, vs, rfl, q1, r1⟩ := rd_lst S.sub h
    exact ⟨a, vs, rfl, .inl ⟨.inl q1, fun l hl => k _ _ _ (S.newZ hl) (EStep.newZ S hl) (rv_tup S hl r1)⟩⟩
  · cases e
    have h0 := h.elim id fun ⟨_, _, z⟩ => z.elim
    obtain ⟨a, vs, rfl, q1, r1⟩ := rd_tup S.sub h
    exact ⟨a, vs, rfl, .inr ⟨q1, k _ _ _ S (.refl _ _ _ _) h0⟩⟩
  · cases e
theorem ints_rep {T : Tx} {Z : Hp} : ∀ {ds : List D} {vs : List V} {ns : List Int}, Reps T Z ds vs → intsD ds = some ns → vs = ns.map V.int
  | [], vs, ns, r, e => by cases e; exact r
  | d :: ds, _, ns, ⟨v, r, ev, q, s⟩, e => by
    unfold intsD at e
    split at e
    · rename_i e0; cases e0
    · rename_i i ds' e0
      cases e0
      cases h : intsD ds with
      | none => rw [h] at e; cases e
      | some ms => rw [h] at e; cases e; subst ev; rw [show v = .int _ from q, ints_rep s h]; rfl
    · cases e
theorem strs_rep {T : Tx} {Z : Hp} : ∀ {ds : List D} {vs : List V} {ns : List Str}, Reps T Z ds vs → strsD ds = some ns → vs = ns.map V.str
  | [], vs, ns, r, e => by cases e; exact r
  | d :: ds, _, ns, ⟨v, r, ev, q, s⟩, e => by
    unfold strsD at e
    split at e
    · rename_i e0; cases e0
    · rename_i i ds' e0
      cases e0
      cases h : strsD ds with
      | none => rw [h] at e; cases e
      | some ms => rw [h] at e; cases e; subst ev; rw [show v = .str _ from q, strs_rep s h]; rfl
    · cases e
theorem reps_ints {T : Tx} {Z : Hp} : ∀ (ns : List Int), Reps T Z (ns.map D.int) (ns.map V.int)
  | [] => rfl
  | n :: ns => ⟨.int n, _, rfl, rfl, reps_ints ns⟩
theorem lst_ints {H Z : Hp} {x : V} {d : D} {ns : List Int} (s : Le Z H) (h : RdOk (tx X) H Z x d) (e : (lstD d).bind intsD = some ns) : ∃ a, x = .ref a ∧ SqL X.K H a (ns.map V.int) := by
  cases d with
  | lst ds =>
    obtain ⟨a, vs, rfl, q1, r1⟩ := rd_lst s h
    have e : intsD ds = some ns := e
    exact ⟨a, rfl, .inl (by rw [← ints_rep r1 e]; exact q1)⟩
  | _ => cases e
theorem fits_sum : FitsC X (rSum X.K) (uD gSum) := FitsC.uI fun d rv x H Z e s h => by
  unfold gSum at e
  cases hn : (lstD d).bind intsD with
  | none => rw [hn] at e; cases e
  | some ns =>
    rw [hn] at e; cases e
    obtain ⟨a, rfl, q1⟩ := lst_ints s h hn
    exact ⟨_, rfl, _, fun _ _ => rfl, fun Q q => ⟨a, ns, rfl, q1, q⟩⟩
theorem topI_spec : ∀ (ns : List Int) (m : Int), topI m ns ∈ m :: ns ∧ ∀ y ∈ m :: ns, y ≤ topI m ns
  | [], m => ⟨by simp [topI], fun y hy => by simp at hy; subst hy; exact Int.le_refl _⟩
  | n :: ns, m => by
    obtain ⟨h1, h2⟩ := topI_spec ns (if n > m then n else m)
    unfold topI
    refine ⟨?_, fun y hy => ?_⟩
    · rcases List.mem_cons.mp h1 with h | h
      · rw [h]; split <;> simp
      · simp [h]
    · have h3 := h2 _ List.mem_cons_self
      rcases List.mem_cons.mp hy with rfl | hy
      · refine Int.le_trans ?_ h3; split <;> omega
      · rcases List.mem_cons.mp hy with rfl | hy
        · refine Int.le_trans ?_ h3; split <;> omega
        · exact h2 y (by simp [hy])
theorem lowI_spec : ∀ (ns : List Int) (m : Int), lowI m ns ∈ m :: ns ∧ ∀ y ∈ m :: ns, lowI m ns ≤ y
  | [], m => ⟨by simp [lowI], fun y hy => by simp at hy; subst hy; exact Int.le_refl _⟩
  | n :: ns, m => by
    obtain ⟨h1, h2⟩ := lowI_spec ns (if n < m then n else m)
    unfold lowI
    refine ⟨?_, fun y hy => ?_⟩
    · rcases List.mem_cons.mp h1 with h | h
      · rw [h]; split <;> simp
      · simp [h]
    · have h3 := h2 _ List.mem_cons_self
      rcases List.mem_cons.mp hy with rfl | hy
      · refine Int.le_trans h3 ?_; split <;> omega
      · rcases List.mem_cons.mp hy with rfl | hy
        · refine Int.le_trans h3 ?_; split <;> omega
        · exact h2 y (by simp [hy])
theorem fits_maxL : FitsC X (rMax X.K) (uD gMaxL) := FitsC.uI fun d rv x H Z e s h => by
  unfold gMaxL at e
  cases hn : (lstD d).bind intsD with
  | none => rw [hn] at e; cases e
  | some ns =>
    rw [hn] at e
    cases ns with
    | nil => cases e
    | cons n r =>
      cases e
      obtain ⟨a, rfl, q1⟩ := lst_ints s h hn
      obtain ⟨t1, t2⟩ := topI_spec r n
      refine ⟨_, rfl, _, fun _ _ => rfl, fun Q q => ⟨a, n :: r, rfl, q1, by simp, fun m hm hx => ?_⟩⟩
      have := hx _ t1
      have := t2 _ hm
      have e : m = topI n r := by omega
      rw [e]; exact q
theorem fits_minL : FitsC X (rMin X.K) (uD gMinL) := FitsC.uI fun d rv x H Z e s h => by
  unfold gMinL at e
  cases hn : (lstD d).bind intsD with
  | none => rw [hn] at e; cases e
  | some ns =>
    rw [hn] at e
    cases ns with
    | nil => cases e
    | cons n r =>
      cases e
      obtain ⟨a, rfl, q1⟩ := lst_ints s h hn
      obtain ⟨t1, t2⟩ := lowI_spec r n
      refine ⟨_, rfl, _, fun _ _ => rfl, fun Q q => ⟨a, n :: r, rfl, q1, by simp, fun m hm hx => ?_⟩⟩
      have := hx _ t1
      have := t2 _ hm
      have e : m = lowI n r := by omega
      rw [e]; exact q
/-! isinstance, a built-in type -/
def tyD : D → Option String
  | .non => some "NoneType"
  | .bl _ => some "bool"
  | .int _ => some "int"
  | .str _ => some "str"
  | .tup _ => some "tuple"
  | .lst _ => some "list"
  | .dic _ => some "dict"
  | _ => none
def gIsi (T : String) (d : D) : Option Rv := (tyD d).bind fun t => (kitB t T).bind vB
theorem ty_rd {H Z : Hp} {v : V} {d : D} {t : String} (s : Le Z H) (h : RdOk (tx X) H Z v d) (e : tyD d = some t) : TyX X.K H v (.type t) := by
  cases d with
  | non => cases e; rw [rd_non h]; exact .base .non
  | bl b => cases e; rw [rd_bl h]; exact .base (.bl b)
  | int i => cases e; rw [rd_int h]; exact .base (.int i)
  | str i => cases e; rw [rd_str h]; exact .base (.str i)
  | tup ds =>
    cases e
    obtain ⟨a, vs, rfl, q, r⟩ := rd_tup s h
    rcases q with (q | ⟨o, q⟩) | ⟨o, its, n, q, q2, _⟩
    · exact .base (.tup q)
    · exact .fTuple q
    · exact .kTuple q q2
  | lst ds =>
    cases e
    obtain ⟨a, vs, rfl, q, r⟩ := rd_lst s h
    rcases q with q | ⟨o, q⟩
    · exact .base (.lst q)
    · exact .base (.frz q)
  | dic ds =>
    cases e
    rcases h with ⟨a, rfl, es, q, r⟩ | ⟨a, rfl, es, q, r⟩
    · exact .base (.dK (s _ _ q))
    · exact .base (.dK q)
  | obj _ _ => cases e
  | glo _ => cases e
theorem se_isi {y : Str} {q : Pos} (h : SE X e c) (hg : Gl X "isinstance") (hm : X.mg "isinstance" = none) (hgy : Gl X y) (hmy : X.mg y = none) (hvy : bootBuiltins y = some (.type T)) (hn : y ≠ "__name__" := by decide) (hdb : (y == ("__debug__" : Str)) = false := by decide)
    (hs : starEach [e, .Name y q] X.env = (false, eval e X.env) :: starEach [.Name y q] X.env := by rfl) (hs2 : starEach [.Name y q] X.env = (false, eval (.Name y q) X.env) :: starEach [] X.env := by rfl) (hpl : (backTo pos (starEach [.Name y q] X.env)).any (·.1) = false := by rfl) :
    SE X (.Call (.Name "isinstance" p) [e, .Name y q] [] pos) (cUn (gIsi T) c) :=
  ⟨fun W tk => peI (pe_callB call_isi hg hm PyProof.Rows.boot_isinstance (pa_cons (h.run W tk) (pa_cons (pe_bltn (v := V.ty T) hgy hmy hvy (show RelV (V.ty T) (.type T) from rfl) hn hdb) pa_nil hs2) hs) (by decide) (by decide) hs hpl) (tE_of fun ρ σ H Z Q S p => by
    unfold cUn cR at p
    rw [bnd_assoc] at p
    refine ⟨ρ, Z, S, p.bnd (k1 := kE) fun r v ρ1 H1 Z1 S1 E1 o1 p1 => ?_⟩
    obtain ⟨rv, e, p2⟩ := Po.ofO p1
    unfold gIsi at e
    cases ht : tyD r.d with
    | none => rw [ht] at e; cases e
    | some t =>
      rw [ht] at e
      simp only [Option.bind_some] at e
      cases hk : kitB t T with
      | none => rw [hk] at e; cases e
      | some b =>
        rw [hk] at e; cases e
        exact ⟨v, .ty T, .type t, .type T, b, rfl, .ty T, ty_rd (X := X) S1.sub (RvOk.read o1) ht, kit_ty hk, p2 (.bl b) H1 Z1 S1 (.refl _ _ _ _) rfl⟩)⟩
/-! f-strings -/
def kS : Kd Str V := ⟨fun _ _ _ _ _ _ _ v y => v = .str y, fun _ h => h⟩
def fmtD : D → Option Str
  | .str y => if sz y.length then some y else none
  | .int i => if i.natAbs.log2 < 1920 then some (toString i) else none
  | _ => none
def strD : D → Option Str
  | .str y => some y
  | _ => none
def cFmt (c : Mn Rv) : Mn Str := bnd c fun r => ofO (fmtD r.d)
def cTxt (c : Mn Rv) : Mn Str := bnd c fun r => ofO (strD r.d)
def cJs : List (Mn Str) → Str → Mn Str
  | [], acc => ret acc
  | t :: ts, acc => bnd t fun y => if sz (acc ++ y).length = true then cJs ts (acc ++ y) else stk
def cFStr (ts : List (Mn Str)) : Mn Rv := bnd (cJs ts Str.empty) fun y => ret (.val (.str y))
structure SJ (X : Cx) (es : List Expr) (ts : List (Mn Str)) : Prop where
  run : ∀ W, Takes X W → PJ X es (ts.map fun t => fun σ H Q => tK kS (tx X) W t σ H Q)
theorem sj_nil : SJ X [] [] := ⟨fun W tk => .nil⟩
theorem sj_fmt {ts : List (Mn Str)} (h : SE X e c) (hr : SJ X es ts) : SJ X (.FormattedValue e (-1) none pos :: es) (cFmt c :: ts) :=
  ⟨fun W tk => .cons (peI (pe_fmt (h.run W tk)) (tE_of fun ρ σ H Z Q S p => ⟨ρ, Z, S, p.bnd (k1 := kE) fun r v ρ1 H1 Z1 S1 E1 o1 p1 => by
    obtain ⟨y, e, p2⟩ := Po.ofO p1
    have rd := RvOk.read o1
    generalize r.d = d at e rd
    cases d with
    | str z =>
      simp only [fmtD] at e
      split at e
      · rename_i hz
        cases e
        exact .inl ⟨_, rd_str rd, of_decide_eq_true hz, Po.out (k := kS) p2 S1 rfl⟩
      · cases e
    | int i =>
      simp only [fmtD] at e
      split at e
      · rename_i hz
        cases e
        exact .inr ⟨i, rd_int rd, hz, Po.out (k := kS) p2 S1 rfl⟩
      · cases e
    | _ => cases e⟩)) (hr.run W tk)⟩
theorem sj_txt {ts : List (Mn Str)} (h : SE X e c) (hr : SJ X es ts) : SJ X (e :: es) (cTxt c :: ts) :=
  ⟨fun W tk => .cons (peI (h.run W tk) (tE_of fun ρ σ H Z Q S p => ⟨ρ, Z, S, p.bnd (k1 := kE) fun r v ρ1 H1 Z1 S1 E1 o1 p1 => by
    obtain ⟨y, e, p2⟩ := Po.ofO p1
    have rd := RvOk.read o1
    generalize r.d = d at e rd
    cases d with
    | str z =>
      cases e
      exact Po.out (k := kS) p2 S1 (rd_str rd)
    | _ => cases e⟩)) (hr.run W tk)⟩
theorem js_ok {W : WX} {σ : L2.St} {Q : Str → Hp → Prop} : ∀ (ts : List (Mn Str)) (acc : Str) (ρ : En) (H Z : Hp), SOk (tx X) ρ σ H Z → Po (⟨fun _ _ _ _ _ _ _ v y => v = y, fun _ h => h⟩ : Kd Str Str) (tx X) ρ σ H Z (cJs ts acc ρ) W Q →
    tJs (ts.map fun t => fun σ H Q => tK kS (tx X) W t σ H Q) acc σ H Q
  | [], acc, ρ, H, Z, S, p => Po.out (k := (⟨fun _ _ _ _ _ _ _ v y => v = y, fun _ h => h⟩ : Kd Str Str)) p S rfl
  | t :: ts, acc, ρ, H, Z, S, p => ⟨ρ, Z, S, p.bnd (k1 := kS) fun y v ρ1 H1 Z1 S1 E1 o1 p1 => by
    by_cases hz : sz (acc ++ y).length = true
    · rw [if_pos hz] at p1
      exact ⟨y, o1, of_decide_eq_true hz, js_ok ts _ ρ1 H1 Z1 S1 p1⟩
    · rw [if_neg hz] at p1; exact p1.elim⟩
theorem se_fstr {v1 v2 : Expr} {rest : List Expr} {ts : List (Mn Str)} (h : SJ X (v1 :: v2 :: rest) ts) : SE X (.JoinedStr (v1 :: v2 :: rest) pos) (cFStr ts) :=
  ⟨fun W tk => peI (pe_joined (h.run W tk)) (tE_of fun ρ σ H Z Q S p => js_ok ts Str.empty ρ H Z S (p.bnd (k1 := (⟨fun _ _ _ _ _ _ _ v y => v = y, fun _ h => h⟩ : Kd Str Str)) fun y v ρ1 H1 Z1 S1 E1 o1 p1 => by
    cases o1
    exact Po.out (k := kE) (a := .val (.str y)) p1 S1 rfl))⟩
theorem se_fstr1 (h : SE X (.FormattedValue e (-1) none p) c) : SE X (.JoinedStr [.FormattedValue e (-1) none p] pos) c := ⟨fun W tk => pe_joined1 (h.run W tk)⟩
/-! methods of texts, one argument -/
def isStr : D → Bool
  | .str _ => true
  | _ => false
def cM1 (f : D → D → Option Rv) (co ce : Mn Rv) : Mn Rv := bnd co fun a => if isStr a.d = true then bnd ce fun b => ofO (f a.d b.d) else stk
theorem m1_ok {W : WX} {r : V → List V → Hp → VK → Prop} {f : D → D → Option Rv} (hf : Fits2 X (fun x y H Q => r x [y] H Q) f) : ∀ σ H Q, tK kE (tx X) W (cM1 f co ce) σ H Q → tM1 r (tK kE (tx X) W co) (tK kE (tx X) W ce) σ H Q := tE_of fun ρ σ H Z Q S p => ⟨ρ, Z, S, p.bnd (k1 := kE) fun rx vx ρ1 H1 Z1 S1 E1 o1 p1 => by
  by_cases hs : isStr rx.d = true
  · rw [if_pos hs] at p1
    have rd := RvOk.read o1
    refine ⟨?_, ρ1, Z1, S1, p1.bnd (k1 := kE) fun ry vy ρ2 H2 Z2 S2 E2 o2 p2 => ?_⟩
    · cases hd : rx.d with
      | str y => rw [hd] at rd; exact ⟨y, rd_str rd⟩
      | _ => rw [hd] at hs; cases hs
    · obtain ⟨rv, e, p5⟩ := p2.ofO
      exact hf S2 (rd.mono E2.same E2.step.le) (RvOk.read o2) e fun v H' Z' S' E' o' => p5 v H' Z' S' E' o'
  · rw [if_neg hs] at p1; exact p1.elim⟩
def joinD : D → D → Option Rv
  | .str a, d => ((seqD d).bind strsD).bind fun ys => if (ys.map (·.length)).sum + ys.length * a.length ≤ 16777216 then vS (Txt.join a ys) else none
  | _, _ => none
theorem fits_join : Fits2 X (fun x y H Q => ∃ a p, ∃ ys : List Str, x = .str a ∧ [y] = [.ref p] ∧ (SqL X.K H p (ys.map V.str) ∨ SqT X.K H p (ys.map V.str)) ∧ (ys.map (·.length)).sum + ys.length * a.length ≤ 16777216 ∧ Q (.str (Txt.join a ys)) H) joinD := by
  intro ρ σ H Z dx dy x y rv Q S h1 h2 e k
  cases dx with
  | str a =>
    simp only [joinD] at e
    cases hq : (seqD dy).bind strsD with
    | none => rw [hq] at e; cases e
    | some ys =>
      rw [hq] at e
      simp only [Option.bind_some] at e
      split at e
      · rename_i hz
        cases e
        cases dy with
        | lst ds =>
          obtain ⟨p, vs, rfl, q1, r1⟩ := rd_lst S.sub h2
          have hq : strsD ds = some ys := hq
          exact ⟨a, p, ys, rd_str h1, rfl, .inl (.inl (by rw [← strs_rep r1 hq]; exact q1)), hz, k _ _ _ S (.refl _ _ _ _) rfl⟩
        | tup ds =>
          obtain ⟨p, vs, rfl, q1, r1⟩ := rd_tup S.sub h2
          have hq : strsD ds = some ys := hq
          exact ⟨a, p, ys, rd_str h1, rfl, .inr (by rw [← strs_rep r1 hq]; exact q1), hz, k _ _ _ S (.refl _ _ _ _) rfl⟩
        | _ => cases hq
      · cases e
  | _ => cases e
theorem se_join (ho : SE X o co) (he : SE X e ce) (hs : starEach [e] X.env = [(false, eval e X.env)] := by rfl) (hbase : attributeBase o "join" X.env (eval o X.env) = eval o X.env := by rfl) (hline : (apos.endLine == pos.line) = true := by rfl) :
    SE X (.Call (.Attribute o "join" apos) [e] [] pos) (cM1 joinD co ce) := ⟨fun W tk => peI (pe_join (ho.run W tk) (he.run W tk) hs hbase hline) (m1_ok fits_join)⟩
/-! what is not served -/
theorem se_stk : SE X e (stk : Mn Rv) := ⟨fun W tk => ⟨fun pins s σ H Q I ⟨ρ, Z, S, p⟩ => p.elim⟩⟩
theorem ss_stk {st : Stmt} : SS X st (stk : Mn Fl) := ⟨fun W tk => ⟨fun pins s σ H D I ⟨ρ, Z, S, p⟩ => p.elim⟩⟩
theorem st_stk : STt X e (stk : Mn Bool) := ⟨fun W tk => ⟨fun pins s σ H Q I ⟨ρ, Z, S, p⟩ => p.elim⟩⟩
end
end CI
end
section
set_option maxRecDepth 100000
/-! CILc2: list comprehensions of two clauses. -/
namespace CI
open PySem L2 PyProof.Rows
def lcL2 (t : Tn) (cond : Mn Bool) (it1 : Mn (List D)) (t1 : Tn) (cond1 : Mn Bool) (elt : Mn Rv) (vs vs1 : List Nat) : List D → List D → En → Option (List D × En)
  | [], acc, ρ => some (acc, ρ)
  | d :: ds, acc, ρ => (setTn t d ρ).bind fun ρ1 => match cond ρ1 with
    | .ok false ρ2 => lcL2 t cond it1 t1 cond1 elt vs vs1 ds acc (wipeE ρ2 vs)
    | .ok true ρ2 => (match it1 ρ2 with
      | .ok es ρ3 => (lcL t1 cond1 elt vs1 es acc (wipeE ρ3 vs1)).bind fun q => lcL2 t cond it1 t1 cond1 elt vs vs1 ds q.1 (wipeE q.2 vs)
      | _ => none)
    | _ => none
def cLc2 (it : Mn (List D)) (t : Tn) (cond : Mn Bool) (it1 : Mn (List D)) (t1 : Tn) (cond1 : Mn Bool) (elt : Mn Rv) (vs vs1 : List Nat) : Mn Rv := bnd it fun ds ρ =>
  if okOwn ρ vs && t.ix.all (fun i => vs.contains i) && t1.ix.all (fun i => vs1.contains i) && vs1.all (fun i => vs.contains i) then (match lcL2 t cond it1 t1 cond1 elt vs vs1 ds [] (wipeE ρ vs) with
    | some q => .ok (.own (.lst q.1)) (restE ρ q.2 vs)
    | none => .stuck) else .stuck
/-- what holds meanwhile: Dp the new list, σc the slots now -/
structure GInv (T : Tx) (ρ0 : En) (σ : L2.St) (H1 Z1 : Hp) (Dp : Addr) (acc : List D) (ρ : En) (σc : L2.St) (H Z : Hp) : Prop where
  S : SOk T ρ σc H Z
  new : H1 Dp = none
  vals : ∃ ws, H Dp = some (.lst ws) ∧ Reps T Z acc ws
  zD : Z Dp = none
  same : Le H1 H
  le : Le Z1 Z
  grow : ∀ a o, Z a = some o → Z1 a = some o ∨ H1 a = none ∨ OwnA ρ0 σ a
  own : ∀ a, OwnA ρ σc a → OwnA ρ0 σ a
  bor : ∀ (j : Nat) (d : D), ρ[j]? = some (.bor d) → ρ0[j]? = some (.bor d) ∧ σc[j]? = σ[j]?
  obj : ∀ (j : Nat) (d : D), ρ[j]? = some (.own d) → isObj d = true → ∃ d0, ρ0[j]? = some (.own d0) ∧ isObj d0 = true
  len : ρ.length = ρ0.length
section
variable {T : Tx} {ρ0 ρ ρ' : En} {σ σc σ' : L2.St} {H1 Z1 H Z H' Z' : Hp} {Dp : Addr} {acc : List D} {vs : List Nat}
theorem GInv.notOwn (L : GInv T ρ0 σ H1 Z1 Dp acc ρ σc H Z) (S0 : SOk T ρ0 σ H1 Z1) : ¬ OwnA ρ σc Dp := fun q => S0.notOwn L.new (L.own _ q)
theorem GInv.notBor (L : GInv T ρ0 σ H1 Z1 Dp acc ρ σc H Z) (S0 : SOk T ρ0 σ H1 Z1) : ¬ BorA ρ σc Dp := fun ⟨j, d, h1, h2⟩ => S0.notBor L.new ⟨j, d, (L.bor j d h1).1, by rw [← (L.bor j d h1).2]; exact h2⟩
theorem GInv.step (L : GInv T ρ0 σ H1 Z1 Dp acc ρ σc H Z) (S0 : SOk T ρ0 σ H1 Z1) (S' : SOk T ρ' σ' H' Z') (E : Step ρ σc H Z ρ' σ' H' Z') (l : Le H H') (ho : ∀ a, OwnA ρ' σ' a → OwnA ρ σc a) (hl : ρ'.length = ρ.length) : GInv T ρ0 σ H1 Z1 Dp acc ρ' σ' H' Z' := by
  obtain ⟨ws, hws, rws⟩ := L.vals
  refine ⟨S', L.new, ⟨ws, l _ _ hws, rws.mono E.le⟩, ?_, L.same.trans l, L.le.trans E.le, fun a o e => ?_, fun a q => L.own a (ho a q), fun j d q => ?_, fun j d q ob => ?_, hl.trans L.len⟩
  · cases w : Z' Dp with
    | none => rfl
    | some o =>
      rcases E.grow Dp o w with v | v | v
      · rw [L.zD] at v; cases v
      · rw [hws] at v; cases v
      · exact (L.notOwn S0 v).elim
  · rcases E.grow a o e with v | v | v
    · exact L.grow a o v
    · refine .inr (.inl ?_)
      cases hh : H1 a with
      | none => rfl
      | some o' => rw [L.same a o' hh] at v; cases v
    · exact .inr (.inr (L.own a v))
  · obtain ⟨g1, g2⟩ := E.bor j d q
    obtain ⟨g3, g4⟩ := L.bor j d g1
    exact ⟨g3, g2.trans g4⟩
  · obtain ⟨⟨d0, g1, g2⟩, _⟩ := E.obj j d q ob
    exact L.obj j d0 g1 g2
theorem GInv.wipe (L : GInv T ρ0 σ H1 Z1 Dp acc ρ σc H Z) (vs : List Nat) : GInv T ρ0 σ H1 Z1 Dp acc (wipeE ρ vs) (L2.wipe σc vs) H Z :=
  ⟨L.S.wipe vs, L.new, L.vals, L.zD, L.same, L.le, L.grow, fun a q => L.own a (wipe_ownA q), fun j d q => by
    rw [wipeE_get] at q
    split at q
    · cases q
    · rename_i hn
      rw [wipe_get, ← L.S.len, if_neg hn]
      exact L.bor j d q, fun j d q ob => by
    rw [wipeE_get] at q
    split at q
    · cases q
    · exact L.obj j d q ob, (wipeE_len ρ vs).trans L.len⟩
theorem GInv.app (L : GInv T ρ0 σ H1 Z1 Dp acc ρ σc H Z) (S0 : SOk T ρ0 σ H1 Z1) {ws : List V} {y : D} {v : V} (hws : H Dp = some (.lst ws)) (r : Rep T Z y v) : GInv T ρ0 σ H1 Z1 Dp (acc ++ [y]) ρ σc (upd H Dp (.lst (ws ++ [v]))) Z := by
  obtain ⟨ws', hws', rws⟩ := L.vals
  rw [hws] at hws'
  cases hws'
  exact ⟨L.S.other L.zD (L.notOwn S0) (L.notBor S0), L.new, ⟨_, upd_same, rws.append (.single r)⟩, L.zD, fun a o e => by
    have ha : a ≠ Dp := fun w => by rw [w, L.new] at e; cases e
    rw [upd_ne ha]; exact L.same a o e, L.le, L.grow, L.own, L.bor, L.obj, L.len⟩
theorem GInv.start (S : SOk T ρ0 σ H1 Z1) (hD : H1 Dp = none) : GInv T ρ0 σ H1 Z1 Dp [] ρ0 σ (upd H1 Dp (.lst [])) Z1 :=
  ⟨S.new hD, hD, ⟨[], upd_same, rfl⟩, S.zfree hD, upd_le hD, .refl _, fun a o e => .inl e, fun a h => h, fun j d h => ⟨h, rfl⟩, fun j d h ob => ⟨d, h, ob⟩, rfl⟩
/-- the comprehension's end: the block's slots are back -/
theorem GInv.close (L : GInv T ρ0 σ H1 Z1 Dp acc ρ (L2.wipe σ vs) H Z) (S : SOk T ρ0 σ H1 Z1) (ho : okOwn ρ0 vs = true) : SOk T (restE ρ0 ρ vs) σ H Z ∧ EStep ρ0 σ H1 Z1 (restE ρ0 ρ vs) H Z ∧ RvOk T ρ0 σ H1 (restE ρ0 ρ vs) H Z (.ref Dp) (.own (.lst acc)) := by
  obtain ⟨ws, hws, rws⟩ := L.vals
  have gl : ρ.length = ρ0.length := L.len
  have hown : ∀ a, OwnA (restE ρ0 ρ vs) σ a → OwnA ρ (L2.wipe σ vs) a := fun a ⟨j, d, h1, h2⟩ => by
    rw [restE_get ρ0 ρ gl] at h1
    split at h1
    · rename_i hj; exact absurd h1 ((okOwn_ok ho hj).1 d)
    · rename_i hj; exact ⟨j, d, h1, by rw [wipe_get, if_neg (fun w => hj w.1)]; exact h2⟩
  have hbor : ∀ a, BorA (restE ρ0 ρ vs) σ a → BorA ρ (L2.wipe σ vs) a := fun a ⟨j, d, h1, h2⟩ => by
    rw [restE_get ρ0 ρ gl] at h1
    split at h1
    · rename_i hj; exact absurd h1 ((okOwn_ok ho hj).2 d)
    · rename_i hj; exact ⟨j, d, h1, by rw [wipe_get, if_neg (fun w => hj w.1)]; exact h2⟩
  have Sr : SOk T (restE ρ0 ρ vs) σ H Z := by
    refine ⟨by rw [restE_len, gl]; exact S.len, L.S.sub, fun j s h => ?_, fun j k d d' a h1 h2 h3 h4 => ?_, fun a h1 h2 => L.S.sep a (hown a h1) (hbor a h2)⟩
    · rw [restE_get ρ0 ρ gl] at h
      split at h
      · rename_i hj
        have z := S.slot j s h
        cases s with
        | emp => trivial
        | exn _ => exact XSl.mono z L.le
        | val d => obtain ⟨v, e, r⟩ := z; exact ⟨v, e, r.mono L.le⟩
        | own d => exact absurd h ((okOwn_ok ho hj).1 d)
        | bor d => exact absurd h ((okOwn_ok ho hj).2 d)
      · rename_i hj
        have z := L.S.slot j s h
        rw [wipe_get, if_neg (fun w => hj w.1)] at z
        exact z
    · rw [restE_get ρ0 ρ gl] at h1 h2
      split at h1
      · rename_i hj; exact absurd h1 ((okOwn_ok ho hj).1 d)
      · rename_i hj
        split at h2
        · rename_i hk; exact absurd h2 ((okOwn_ok ho hk).1 d')
        · rename_i hk
          exact L.S.inj j k d d' a h1 h2 (by rw [wipe_get, if_neg (fun w => hj w.1)]; exact h3) (by rw [wipe_get, if_neg (fun w => hk w.1)]; exact h4)
  refine ⟨Sr, ⟨⟨fun a o e _ => L.same a o e, L.le, L.grow, fun a h => .inl (L.own a (hown a h)), fun a ⟨o, e⟩ => ⟨o, L.same a o e⟩, fun j d h => ⟨?_, rfl⟩, fun j d h ob => ?_⟩, L.same, by rw [restE_len, gl], fun a h => L.own a (hown a h)⟩,
    Dp, rfl, ⟨ws, hws, rws⟩, L.zD, .inl L.new, fun h => L.notOwn S (hown _ h), fun h => L.notBor S (hbor _ h), rfl⟩
  · rw [restE_get ρ0 ρ gl] at h
    split at h
    · rename_i hj; exact absurd h ((okOwn_ok ho hj).2 d)
    · exact (L.bor j d h).1
  · rw [restE_get ρ0 ρ gl] at h
    split at h
    · rename_i hj; exact absurd h ((okOwn_ok ho hj).1 d)
    · exact ⟨L.obj j d h ob, rfl⟩
end
section
variable {X : Cx} {ta ta1 : Mn Bool} {pos : Pos}
theorem But.wipe {σ σ' : L2.St} {ix vs : List Nat} (b : But σ σ' ix) (h : ∀ j ∈ ix, j ∈ vs) : L2.wipe σ' vs = L2.wipe σ vs := wipe_eq b.1 fun j hj => b.2 j fun w => hj (h j w)
theorem wipe_sub {σ : L2.St} {vs vs1 : List Nat} (h : ∀ j ∈ vs1, j ∈ vs) : L2.wipe (L2.wipe σ vs1) vs = L2.wipe σ vs := wipe_eq (L2.wipe_length σ vs1) fun j hj => by
  rw [wipe_get, if_neg fun w => hj (h j w.1)]
/-- a turn's test and element: from here the list grows or not -/
theorem turn_ok {t : Tn} {elt : Mn Rv} {ρ0 ρ3 : En} {σ σ3 : L2.St} {H1 Z1 H2 Z2 : Hp} {Dp : Addr} {acc : List D} {q : Option D × En} {Nx : Hp → Prop} {hcalm : True} (S0 : SOk (tx X) ρ0 σ H1 Z1) (L : GInv (tx X) ρ0 σ H1 Z1 Dp acc ρ3 σ3 H2 Z2) (hq : lcTurn ta elt ρ3 = some q)
    (k0 : q.1 = none → ∀ H4 Z4, Le H2 H4 → Le Z2 Z4 → GInv (tx X) ρ0 σ H1 Z1 Dp acc q.2 σ3 H4 Z4 → Nx H4)
    (k1 : ∀ y, q.1 = some y → acc.length < sizeLine ∧ ∀ H4 Z4, (∀ a o, a ≠ Dp → H2 a = some o → H4 a = some o) → Le Z2 Z4 → GInv (tx X) ρ0 σ H1 Z1 Dp (acc ++ [y]) q.2 σ3 H4 Z4 → Nx H4) :
    tK kB (tx X) WF ta σ3 H2 fun b H3 => if b = true then tK kD (tx X) WF (cV elt) σ3 H3 fun y H4 => ∃ acc, H4 Dp = some (.lst acc) ∧ acc.length < sizeLine ∧ Nx (upd H4 Dp (.lst (acc ++ [y]))) else Nx H3 := by
  unfold lcTurn at hq
  refine ⟨ρ3, Z2, L.S, ?_⟩
  cases hc : ta ρ3 with
  | stuck => rw [hc] at hq; cases hq
  | exc x ρ4 => rw [hc] at hq; cases hq
  | ok b ρ4 =>
    rw [hc] at hq
    intro b' H4 Z4 S4 E4 eb
    obtain rfl : b' = b := eb
    have L4 := L.step S0 S4 E4.step E4.same E4.ownE E4.len
    cases b' with
    | false =>
      cases hq
      exact k0 rfl H4 Z4 E4.same E4.step.le L4
    | true =>
      simp only at hq
      refine ⟨ρ4, Z4, S4, ?_⟩
      cases he : cV elt ρ4 with
      | stuck => rw [he] at hq; cases hq
      | exc x ρ5 => rw [he] at hq; cases hq
      | ok y ρ5 =>
        rw [he] at hq
        cases hq
        intro v H5 Z5 S5 E5 ry
        have L5 := L4.step S0 S5 E5.step E5.same E5.ownE E5.len
        obtain ⟨hz, kk⟩ := k1 y rfl
        obtain ⟨ws5, hws5, rws5⟩ := L5.vals
        refine ⟨ws5, hws5, by rw [← rws5.length]; exact hz, kk _ Z5 (fun a o ha e => ?_) (E4.step.le.trans E5.step.le) (L5.app S0 hws5 ry)⟩
        rw [upd_ne ha]
        exact E5.same a o (E4.same a o e)
theorem lc2_ok {W : WX} {t t1 : Tn} {vs vs1 : List Nat} {it1 : Mn (List D)} {elt : Mn Rv} {ds : List D} {J : It} {ρ : En} {σ : L2.St} {H Z : Hp} {Q : VK} {G : Addr → Prop} {wi1 : TI} (hi1 : ∀ σ H R, tK (kI (tx X) σ) (tx X) WF it1 σ H R → wi1 σ H R) (S : SOk (tx X) ρ σ H Z) (hs : Src (tx X) G ρ σ H Z J ds)
    (p : Po kE (tx X) ρ σ H Z ((if okOwn ρ vs && t.ix.all (fun i => vs.contains i) && t1.ix.all (fun i => vs1.contains i) && vs1.all (fun i => vs.contains i) then (match lcL2 t ta it1 t1 ta1 elt vs vs1 ds [] (wipeE ρ vs) with
      | some q => .ok (.own (.lst q.1)) (restE ρ q.2 vs)
      | none => .stuck) else .stuck : Out Rv)) W Q) (Dp : Addr) (hD : H Dp = none) :
    ∃ Wi : Nat → Nat → Hp → Prop, (∃ m, Wi 0 m (upd H Dp (.lst []))) ∧ ∀ i m H, Wi i m H →
      (J.stop i H ∧ Q (.ref Dp) H) ∨ (J.go i H ∧ ∃ Nx : Hp → Prop, (∀ H', Nx H' → ∃ m', m' < m ∧ Wi (i + 1) m' H') ∧ ∀ x H', J.yld i H x H' → gTn X.K t x (L2.wipe σ vs) H' fun σ2 H2 => L2.wipe σ2 vs = L2.wipe σ vs ∧ tK kB (tx X) WF ta σ2 H2 fun b H3 =>
        if b = true then wi1 σ2 H3 fun J1 H4 => ∃ W1 : Nat → Nat → Hp → Prop, (∃ m, W1 0 m H4) ∧ ∀ j k H, W1 j k H →
          (J1.stop j H ∧ Nx H) ∨ (J1.go j H ∧ ∃ Nx1 : Hp → Prop, (∀ H', Nx1 H' → ∃ k', k' < k ∧ W1 (j + 1) k' H') ∧ ∀ x H', J1.yld j H x H' → gTn X.K t1 x (L2.wipe σ2 vs1) H' fun σ3 H5 => L2.wipe σ3 vs1 = L2.wipe σ2 vs1 ∧ tK kB (tx X) WF ta1 σ3 H5 fun b H6 =>
            if b = true then tK kD (tx X) WF (cV elt) σ3 H6 fun y H7 => ∃ acc, H7 Dp = some (.lst acc) ∧ acc.length < sizeLine ∧ Nx1 (upd H7 Dp (.lst (acc ++ [y]))) else Nx1 H6)
        else Nx H3) := by
  by_cases hok : (okOwn ρ vs && t.ix.all (fun i => vs.contains i) && t1.ix.all (fun i => vs1.contains i) && vs1.all (fun i => vs.contains i)) = true
  · rw [if_pos hok] at p
    simp only [Bool.and_eq_true] at hok
    obtain ⟨⟨⟨ho, hix⟩, hix1⟩, hsub⟩ := hok
    have hix : ∀ j ∈ t.ix, j ∈ vs := fun j hj => by simpa using List.all_eq_true.mp hix j hj
    have hix1 : ∀ j ∈ t1.ix, j ∈ vs1 := fun j hj => by simpa using List.all_eq_true.mp hix1 j hj
    have hsub : ∀ j ∈ vs1, j ∈ vs := fun j hj => by simpa using List.all_eq_true.mp hsub j hj
    cases hq : lcL2 t ta it1 t1 ta1 elt vs vs1 ds [] (wipeE ρ vs) with
    | none => rw [hq] at p; exact p.elim
    | some fin =>
      rw [hq] at p
      refine ⟨fun i m H' => m = ds.length - i ∧ i ≤ ds.length ∧ ∃ acc ρ' Z', GInv (tx X) ρ σ H Z Dp acc ρ' (L2.wipe σ vs) H' Z' ∧ lcL2 t ta it1 t1 ta1 elt vs vs1 (ds.drop i) acc ρ' = some fin, ⟨_, rfl, Nat.zero_le _, [], wipeE ρ vs, Z, (GInv.start S hD).wipe vs, by rw [List.drop_zero]; exact hq⟩, ?_⟩
      rintro i m H' ⟨rfl, hi, acc, ρ', Z', L, hl⟩
      obtain ⟨P, hP, src⟩ := id hs
      have hsrc := src H' Z' (fun a ha => by
        obtain ⟨⟨o, ho⟩, _⟩ := hP a ha
        rw [L.same a o ho, ho]) L.le L.S.sub
      obtain ⟨hstop, hgo⟩ := hsrc
      rcases Nat.lt_or_ge i ds.length with hlt | hge
      · have hd : ds[i]? = some ds[i] := List.getElem?_eq_getElem hlt
        obtain ⟨g, y⟩ := hgo i _ hd
        refine .inr ⟨g, fun H2 => ds.length - (i + 1) = ds.length - (i + 1) ∧ i + 1 ≤ ds.length ∧ ∃ acc ρ' Z', GInv (tx X) ρ σ H Z Dp acc ρ' (L2.wipe σ vs) H2 Z' ∧ lcL2 t ta it1 t1 ta1 elt vs vs1 (ds.drop (i + 1)) acc ρ' = some fin, fun H2 h => ⟨_, by omega, h⟩, fun x H2 yx => ?_⟩
        obtain ⟨l1, Z2, l2, l3, l4, r⟩ := y x H2 yx
        have S2 := L.S.growN l1 l2 l3 l4
        rw [drop_cons hd] at hl
        unfold lcL2 at hl
        cases ht : setTn t ds[i] ρ' with
        | none => rw [ht] at hl; cases hl
        | some ρ3 =>
          rw [ht] at hl
          refine setTn_ok ht S2 r fun σ3 S3 E3 b3 o3 => ?_
          have ew : L2.wipe σ3 vs = L2.wipe σ vs := by rw [b3.wipe hix, wipe_wipe]
          have E03 : Step ρ' (L2.wipe σ vs) H' Z' ρ3 σ3 H2 Z2 := (step_grow l1 l2 l4).trans E3
          have len3 : ρ3.length = ρ'.length := by rw [S3.len, b3.1, ← S2.len]
          have L3 : GInv (tx X) ρ σ H Z Dp acc ρ3 σ3 H2 Z2 := L.step S S3 E03 l1 (fun a q => o3 a q) len3
          simp only [Option.bind_some] at hl
          refine ⟨ew, ρ3, Z2, S3, ?_⟩
          cases hc : ta ρ3 with
          | stuck => rw [hc] at hl; cases hl
          | exc x ρ4 => rw [hc] at hl; cases hl
          | ok b ρ4 =>
            rw [hc] at hl
            intro b' H4 Z4 S4 E4 eb
            obtain rfl : b' = b := eb
            have L4 := L3.step S S4 E4.step E4.same E4.ownE E4.len
            cases b' with
            | false =>
              have L5 := L4.wipe vs
              rw [ew] at L5
              exact ⟨rfl, hlt, acc, wipeE ρ4 vs, Z4, L5, hl⟩
            | true =>
              simp only at hl
              refine hi1 σ3 H4 _ ⟨ρ4, Z4, S4, ?_⟩
              cases he : it1 ρ4 with
              | stuck => rw [he] at hl; cases hl
              | exc x ρ5 => rw [he] at hl; cases hl
              | ok es ρ5 =>
                rw [he] at hl
                simp only at hl
                intro J1 H5 Z5 S5 E5 hsr
                have L5 := L4.step S S5 E5.step E5.same E5.ownE E5.len
                have noD4 := L4.notOwn S
                have nbD4 := L4.notBor S
                obtain ⟨P1, hP1, src1⟩ := (show Src (tx X) (From ρ4 σ3 H4 Z5) ρ5 σ3 H5 Z5 J1 es from hsr)
                have hnD : Dp ∉ P1 := fun w => by
                  obtain ⟨_, _, q⟩ := hP1 Dp w
                  obtain ⟨ws, hws, _⟩ := L4.vals
                  rcases q with (q | q) | ⟨o, q⟩ | q
                  · rw [hws] at q; cases q
                  · exact noD4 q
                  · rw [L5.zD] at q; cases q
                  · exact nbD4 q
                cases hin : lcL t1 ta1 elt vs1 es acc (wipeE ρ5 vs1) with
                | none => rw [hin] at hl; cases hl
                | some fq =>
                  rw [hin] at hl
                  simp only [Option.bind_some] at hl
                  refine ⟨fun j k H' => k = es.length - j ∧ j ≤ es.length ∧ ∃ acc ρ' Z', GInv (tx X) ρ σ H Z Dp acc ρ' (L2.wipe σ3 vs1) H' Z' ∧ (∀ a o, a ≠ Dp → H5 a = some o → H' a = some o) ∧ Le Z5 Z' ∧ lcL t1 ta1 elt vs1 (es.drop j) acc ρ' = some fq,
                    ⟨_, rfl, Nat.zero_le _, acc, wipeE ρ5 vs1, Z5, L5.wipe vs1, fun _ _ _ e => e, .refl _, by rw [List.drop_zero]; exact hin⟩, ?_⟩
                  rintro j k H6 ⟨rfl, hj, acc6, ρ6, Z6, L6, f6, z6, hl6⟩
                  have hsrc1 := src1 H6 Z6 (fun a ha => by
                    obtain ⟨⟨o, ho⟩, _⟩ := hP1 a ha
                    rw [f6 a o (fun w => hnD (w ▸ ha)) ho, ho]) z6 L6.S.sub
                  obtain ⟨hstop1, hgo1⟩ := hsrc1
                  rcases Nat.lt_or_ge j es.length with hlt1 | hge1
                  · have hd1 : es[j]? = some es[j] := List.getElem?_eq_getElem hlt1
                    obtain ⟨g1, y1⟩ := hgo1 j _ hd1
                    refine .inr ⟨g1, fun H' => es.length - (j + 1) = es.length - (j + 1) ∧ j + 1 ≤ es.length ∧ ∃ acc ρ' Z', GInv (tx X) ρ σ H Z Dp acc ρ' (L2.wipe σ3 vs1) H' Z' ∧ (∀ a o, a ≠ Dp → H5 a = some o → H' a = some o) ∧ Le Z5 Z' ∧ lcL t1 ta1 elt vs1 (es.drop (j + 1)) acc ρ' = some fq, fun H' h => ⟨_, by omega, h⟩, fun x H7 yx1 => ?_⟩
                    obtain ⟨m1, Z7, m2, m3, m4, r7⟩ := y1 x H7 yx1
                    have S7 := L6.S.growN m1 m2 m3 m4
                    rw [drop_cons hd1] at hl6
                    unfold lcL at hl6
                    cases ht1 : setTn t1 es[j] ρ6 with
                    | none => rw [ht1] at hl6; cases hl6
                    | some ρ8 =>
                      rw [ht1] at hl6
                      simp only [Option.bind_some] at hl6
                      refine setTn_ok ht1 S7 r7 fun σ8 S8 E8 b8 o8 => ?_
                      have ew1 : L2.wipe σ8 vs1 = L2.wipe σ3 vs1 := by rw [b8.wipe hix1, wipe_wipe]
                      have E08 : Step ρ6 (L2.wipe σ3 vs1) H6 Z6 ρ8 σ8 H7 Z7 := (step_grow m1 m2 m4).trans E8
                      have len8 : ρ8.length = ρ6.length := by rw [S8.len, b8.1, ← S7.len]
                      have L8 : GInv (tx X) ρ σ H Z Dp acc6 ρ8 σ8 H7 Z7 := L6.step S S8 E08 m1 (fun a q => o8 a q) len8
                      cases hlt : lcTurn ta1 elt ρ8 with
                      | none => rw [hlt] at hl6; cases hl6
                      | some q8 =>
                        rw [hlt] at hl6
                        simp only [Option.bind_some] at hl6
                        refine ⟨ew1, turn_ok (t := t1) (hcalm := trivial) S L8 hlt (fun e0 H9 Z9 h9 z9 L9 => ?_) fun y9 e1 => ?_⟩
                        · rw [e0] at hl6
                          have L10 := L9.wipe vs1
                          rw [ew1] at L10
                          exact ⟨rfl, hlt1, acc6, wipeE q8.2 vs1, Z9, L10, fun a o ha e => h9 a o (m1 a o (f6 a o ha e)), z6.trans (m2.trans z9), hl6⟩
                        · rw [e1] at hl6
                          simp only at hl6
                          by_cases hz : acc6.length < sizeLine
                          · rw [if_pos hz] at hl6
                            refine ⟨hz, fun H9 Z9 h9 z9 L9 => ?_⟩
                            have L10 := L9.wipe vs1
                            rw [ew1] at L10
                            exact ⟨rfl, hlt1, acc6 ++ [y9], wipeE q8.2 vs1, Z9, L10, fun a o ha e => h9 a o ha (m1 a o (f6 a o ha e)), z6.trans (m2.trans z9), hl6⟩
                          · rw [if_neg hz] at hl6; cases hl6
                  · have ej : j = es.length := by omega
                    subst ej
                    rw [List.drop_length] at hl6
                    unfold lcL at hl6
                    cases hl6
                    refine .inl ⟨hstop1, rfl, hlt, acc6, wipeE ρ6 vs, Z6, ?_, hl⟩
                    have L10 := L6.wipe vs
                    rw [wipe_sub hsub, ew] at L10
                    exact L10
      · have e : i = ds.length := by omega
        subst e
        rw [List.drop_length] at hl
        unfold lcL2 at hl
        cases hl
        obtain ⟨S9, E9, R9⟩ := L.close S ho
        exact .inl ⟨hstop, p (.ref Dp) H' Z' S9 E9 R9⟩
  · rw [if_neg hok] at p; exact p.elim
theorem lc2_read {W : WX} {wi wi1 : TI} {t t1 : Tn} {vs vs1 : List Nat} {elt : Mn Rv} {ci ci1 : Mn (List D)} (hi : ∀ σ H R, tK (kI (tx X) σ) (tx X) W ci σ H R → wi σ H R) (hi1 : ∀ σ H R, tK (kI (tx X) σ) (tx X) WF ci1 σ H R → wi1 σ H R) : ∀ σ H Q, tK kE (tx X) W (cLc2 ci t ta ci1 t1 ta1 elt vs vs1) σ H Q →
    L2.tLc2 wi (gTn X.K t) (tK kB (tx X) WF ta) wi1 (gTn X.K t1) (tK kB (tx X) WF ta1) (tK kD (tx X) WF (cV elt)) vs vs1 σ H Q := fun σ H Q ⟨ρ, Z, S, p⟩ => by
  refine hi σ H _ ⟨ρ, Z, S, p.bnd (k1 := kI (tx X) σ) fun ds J ρ1 H1 Z1 S1 E1 o1 p1 => ?_⟩
  intro Dp hD
  exact lc2_ok hi1 S1 o1 p1 Dp hD
theorem blk_pi {tg iter : Expr} {ci : Mn (List D)} {s : Shared} {H : Hp} {scope : Scope} {cenv : Env} {fp : List Addr} (hc : X.calm = true) (h : SI (X.blk s H scope cenv fp) tg iter ci) : PI (X.blk s H scope cenv fp) tg iter (fun σ H R => tK (kI (tx X) σ) (tx X) WF ci σ H R) := by
  have h := h.run WF takes0
  rw [tx_calm (X := X.blk s H scope cenv fp) hc] at h
  rw [tx_calm hc]
  exact h
theorem se_lc2 {elt tg iter tg1 iter1 : Expr} {ifs ifs1 : List Expr} {scope : Scope} {own : List (Str × Nat)} {vs1 : List Nat} {ci ci1 : Mn (List D)} {t t1 : Tn} {ce : Mn Rv} (hc : X.calm = true) (hN : X.N.Nodup) (hi : SI X tg iter ci) (ok : L2.BlkOk X.N X.env.scope scope own) (hv : ∀ i ∈ vs1, i ∈ own.map (·.2))
    (hg : ∀ (s : Shared) (H : Hp) (C : Addr) (cl : List (Str × Addr)) (fp : List Addr), SN (X.blk s H scope (compEnvC scope cl C X.env) fp) tg t) (ht : ∀ (s : Shared) (H : Hp) (C : Addr) (cl : List (Str × Addr)) (fp : List Addr), SC (X.blk s H scope (compEnvC scope cl C X.env) fp) ifs ta)
    (hi1 : ∀ (s : Shared) (H : Hp) (C : Addr) (cl : List (Str × Addr)) (fp : List Addr), SI (X.blk s H scope (compEnvC scope cl C X.env) fp) tg1 iter1 ci1)
    (hg1 : ∀ (s : Shared) (H : Hp) (C : Addr) (cl : List (Str × Addr)) (fp : List Addr), SN (X.blk s H scope (compEnvC scope cl C X.env) fp) tg1 t1) (ht1 : ∀ (s : Shared) (H : Hp) (C : Addr) (cl : List (Str × Addr)) (fp : List Addr), SC (X.blk s H scope (compEnvC scope cl C X.env) fp) ifs1 ta1)
    (he : ∀ (s : Shared) (H : Hp) (C : Addr) (cl : List (Str × Addr)) (fp : List Addr), SE (X.blk s H scope (compEnvC scope cl C X.env) fp) elt ce) (hs : ∀ x, foldedSetIterable iter X.env x = pure x := by intro _; rfl) (hs1 : ∀ env x, foldedSetIterable iter1 env x = pure x := by intro _ _; rfl) :
    SE X (.ListComp elt [⟨tg, iter, ifs, 0⟩, ⟨tg1, iter1, ifs1, 0⟩] scope pos) (cLc2 ci t ta ci1 t1 ta1 ce (own.map (·.2)) vs1) :=
  ⟨fun W tk => peI (L2.pe_lc2 hc hN (hi.run W tk) ok hv (fun s H C cl fp => (hg s H C cl fp).run) (fun s H C cl fp => blk_pts hc (ht s H C cl fp)) (fun s H C cl fp => blk_pi hc (hi1 s H C cl fp)) (fun s H C cl fp => (hg1 s H C cl fp).run) (fun s H C cl fp => blk_pts hc (ht1 s H C cl fp)) (fun s H C cl fp => blk_pe hc (he s H C cl fp)) hs hs1) (lc2_read (fun _ _ _ h => h) fun _ _ _ h => h)⟩
theorem ss_setLc2 {y : Str} {py : Pos} {i : Nat} {elt tg iter tg1 iter1 : Expr} {ifs ifs1 : List Expr} {scope : Scope} {own : List (Str × Nat)} {vs1 : List Nat} {spos : Pos} {ci ci1 : Mn (List D)} {t t1 : Tn} {ce : Mn Rv} (hc : X.calm = true) (hN : X.N.Nodup) (hy : X.N[i]? = some y) (hyl : X.env.scope.names.lookup y = some .local)
    (hsw : swapsWith (.ListComp elt [⟨tg, iter, ifs, 0⟩, ⟨tg1, iter1, ifs1, 0⟩] scope pos) (some (.Name y py)) spos.line X.env = pure true) (hi : SI X tg iter ci) (ok : L2.BlkOk X.N X.env.scope scope own) (hv : ∀ i ∈ vs1, i ∈ own.map (·.2))
    (hg : ∀ (s : Shared) (H : Hp) (C : Addr) (cl : List (Str × Addr)) (fp : List Addr), SN (X.blk s H scope (compEnvC scope cl C X.env) fp) tg t) (ht : ∀ (s : Shared) (H : Hp) (C : Addr) (cl : List (Str × Addr)) (fp : List Addr), SC (X.blk s H scope (compEnvC scope cl C X.env) fp) ifs ta)
    (hi1 : ∀ (s : Shared) (H : Hp) (C : Addr) (cl : List (Str × Addr)) (fp : List Addr), SI (X.blk s H scope (compEnvC scope cl C X.env) fp) tg1 iter1 ci1)
    (hg1 : ∀ (s : Shared) (H : Hp) (C : Addr) (cl : List (Str × Addr)) (fp : List Addr), SN (X.blk s H scope (compEnvC scope cl C X.env) fp) tg1 t1) (ht1 : ∀ (s : Shared) (H : Hp) (C : Addr) (cl : List (Str × Addr)) (fp : List Addr), SC (X.blk s H scope (compEnvC scope cl C X.env) fp) ifs1 ta1)
    (he : ∀ (s : Shared) (H : Hp) (C : Addr) (cl : List (Str × Addr)) (fp : List Addr), SE (X.blk s H scope (compEnvC scope cl C X.env) fp) elt ce) (hs : ∀ x, foldedSetIterable iter X.env x = pure x := by intro _; rfl) (hs1 : ∀ env x, foldedSetIterable iter1 env x = pure x := by intro _ _; rfl) :
    SS X (.Assign [.Name y py] (.ListComp elt [⟨tg, iter, ifs, 0⟩, ⟨tg1, iter1, ifs1, 0⟩] scope pos) spos) (cSet i (cLc2 ci t ta ci1 t1 ta1 ce (own.map (·.2)) vs1)) :=
  ⟨fun W tk => psI (L2.ps_setLc2 hc hN hy hyl hsw (hi.run W tk) ok hv (fun s H C cl fp => (hg s H C cl fp).run) (fun s H C cl fp => blk_pts hc (ht s H C cl fp)) (fun s H C cl fp => blk_pi hc (hi1 s H C cl fp)) (fun s H C cl fp => (hg1 s H C cl fp).run) (fun s H C cl fp => blk_pts hc (ht1 s H C cl fp)) (fun s H C cl fp => blk_pe hc (he s H C cl fp)) hs hs1) fun Dn σ H h => by
    have h2 := set_ok (X := X) (hN := hN) Dn σ H h
    exact lc2_read (fun _ _ _ h => h) (fun _ _ _ h => h) σ H _ h2⟩
end
end CI
end
section
set_option maxRecDepth 100000
set_option maxHeartbeats 1000000
/-! CISort: sorted(list) of ints, of tuples of ints; in, not in over flat sequences; written dicts. -/
namespace CI
open PySem L2 PyProof.Rows
/-! ### the order of lists of ints -/
def ltL : List Int → List Int → Bool
  | _, [] => false
  | [], _ :: _ => true
  | a :: x, b :: y => if a = b then ltL x y else decide (a < b)
def leL (x y : List Int) : Bool := !ltL y x
theorem ltL_asym : ∀ {x y : List Int}, ltL x y = true → ltL y x = false
  | x, [], h => by cases x <;> cases h
  | [], _ :: _, _ => rfl
  | a :: x, b :: y, h => by
    unfold ltL at h ⊢
    by_cases e : a = b
    · rw [if_pos e] at h; rw [if_pos e.symm]; exact ltL_asym h
    · rw [if_neg e] at h
      rw [if_neg (fun z => e z.symm)]
      have := of_decide_eq_true h
      exact decide_eq_false (by omega)
theorem ltL_tr : ∀ {x y z : List Int}, ltL y x = false → ltL z y = false → ltL z x = false
  | [], _, z, _, _ => by cases z <;> rfl
  | a :: x, [], z, h, _ => by cases h
  | a :: x, b :: y, [], _, h => by cases h
  | a :: x, b :: y, c :: z, h1, h2 => by
    unfold ltL at h1 h2 ⊢
    by_cases e1 : b = a
    · rw [if_pos e1] at h1
      by_cases e2 : c = b
      · rw [if_pos e2] at h2
        rw [if_pos (e2.trans e1)]
        exact ltL_tr h1 h2
      · rw [if_neg e2] at h2
        rw [if_neg (fun w => e2 (w.trans e1.symm)), ← e1]
        exact h2
    · rw [if_neg e1] at h1
      have h1 := of_decide_eq_false h1
      by_cases e2 : c = b
      · rw [if_neg (fun w => e1 (e2.symm.trans w)), e2]
        exact decide_eq_false h1
      · rw [if_neg e2] at h2
        have h2 := of_decide_eq_false h2
        rw [if_neg (fun w => by omega)]
        exact decide_eq_false (by omega)
theorem ltL_eq : ∀ {x y : List Int}, ltL x y = false → ltL y x = false → x = y
  | [], [], _, _ => rfl
  | [], _ :: _, h, _ => by cases h
  | _ :: _, [], _, h => by cases h
  | a :: x, b :: y, h1, h2 => by
    unfold ltL at h1 h2
    by_cases e : a = b
    · rw [if_pos e] at h1
      rw [if_pos e.symm] at h2
      rw [e, ltL_eq h1 h2]
    · rw [if_neg e] at h1
      rw [if_neg (fun z => e z.symm)] at h2
      have h1 := of_decide_eq_false h1
      have h2 := of_decide_eq_false h2
      omega
def sortT (l : List (List Int)) : List (List Int) := l.mergeSort leL
theorem leL_trans (a b c : List Int) (h1 : leL a b = true) (h2 : leL b c = true) : leL a c = true := by
  unfold leL at *
  simp only [Bool.not_eq_true'] at *
  exact ltL_tr h1 h2
theorem leL_total (a b : List Int) : (leL a b || leL b a) = true := by
  unfold leL
  cases h : ltL b a with
  | false => simp
  | true => simp [ltL_asym h]
theorem sortT_uniq {l m : List (List Int)} (hp : m.Perm l) (hs : m.Pairwise fun x y => ltL y x = false) : m = sortT l := by
  have hs' : m.Pairwise fun a b => leL a b = true := hs.imp fun {x y} h => by unfold leL; rw [h]; rfl
  refine List.Perm.eq_of_pairwise (le := fun a b => leL a b = true) (fun a b _ _ h1 h2 => ?_) hs' (List.pairwise_mergeSort leL_trans leL_total l) (hp.trans (List.mergeSort_perm l leL).symm)
  unfold leL at h1 h2
  simp only [Bool.not_eq_true'] at h1 h2
  exact ltL_eq h2 h1
def sortI (l : List Int) : List Int := l.mergeSort fun a b => decide (a ≤ b)
theorem sortI_uniq {l m : List Int} (hp : m.Perm l) (hs : m.Pairwise (· ≤ ·)) : m = sortI l := by
  have h1 : (sortI l).Pairwise fun a b => decide (a ≤ b) = true := List.pairwise_mergeSort (fun a b c h1 h2 => by simp at *; omega) (fun a b => by simp; omega) l
  refine List.Perm.eq_of_pairwise (le := (· ≤ ·)) (fun a b _ _ h1 h2 => by omega) hs (h1.imp fun {x y} h => of_decide_eq_true h) (hp.trans (List.mergeSort_perm l _).symm)
/-! ### the library's sort over tuples of ints -/
def ivs (vs : List Value) : List Int := vs.map SrtO.iv
def atI' (h : Heap) : Value → List Int
  | .ref a => match h.get? a with
    | some o => match o.data with
      | .seq xs _ => ivs xs.toList
      | _ => []
    | none => []
  | _ => []
def TupI (h : Heap) (v : Value) (ns : List Int) : Prop := ∃ a o xs n, v = .ref a ∧ h.get? a = some o ∧ o.cls = .type "tuple" ∧ o.data = .seq xs n ∧ IntsAre xs.toList ns
theorem TupI.eq {h : Heap} {v : Value} {ns : List Int} (t : TupI h v ns) : atI' h v = ns := by
  obtain ⟨a, o, xs, n, rfl, ho, hc, hd, hi⟩ := t
  show (match h.get? a with
    | some o => match o.data with
      | .seq xs _ => ivs xs.toList
      | _ => []
    | none => []) = ns
  rw [ho]
  dsimp only
  rw [hd]
  exact SrtO.iv_ints hi
theorem TupI.keeps {h h' : Heap} {v : Value} {ns : List Int} (t : TupI h v ns) (k : ∀ b o, h.get? b = some o → o.cls = .type "tuple" → h'.get? b = some o) : TupI h' v ns := by
  obtain ⟨a, o, xs, n, rfl, ho, hc, hd, hi⟩ := t
  exact ⟨a, o, xs, n, rfl, k a o ho hc, hc, hd, hi⟩
section
variable {prog : Program} {w : World} {A : Around} {E : Value → Shared → Prop} {s : Shared}
theorem lex_of {b fin : Bool} {Q : Bool → Shared → Prop} : ∀ {xs ys : List Value} {ns ms : List Int} (i : Nat), IntsAre xs ns → IntsAre ys ms → fin = decide (ns.length < ms.length) → Q (ltL ns ms) s → PySem.W.KatLex prog w A b fin Q (xs.zip ys) i s
  | [], [], _, _, i, .nil, .nil, e, h => by rw [e]; exact PySem.W.kat_nil h
  | [], _ :: _, _, _, i, .nil, .cons q u hy, e, h => by
    have e2 : fin = true := by rw [e]; simp
    rw [e2]
    exact PySem.W.kat_nil h
  | _ :: _, [], _, _, i, .cons p t hx, .nil, e, h => by
    have e2 : fin = false := by rw [e]; simp
    rw [e2]
    exact PySem.W.kat_nil h
  | _ :: xs, _ :: ys, _, _, i, @IntsAre.cons p t _ ns hx, @IntsAre.cons q u _ ms hy, e, h => by
    show PySem.W.KatLex prog w A b fin Q ((Value.int p t, Value.int q u) :: xs.zip ys) i s
    refine PySem.W.kat_cons (wpAny_eqBool_int ?_)
    unfold ltL at h
    by_cases ep : p = q
    · subst ep
      rw [beq_self_eq_true]
      rw [if_pos rfl] at h
      exact PySem.W.kat_yes (lex_of (i + 1) hx hy (by rw [e]; simp) h)
    · rw [show (p == q) = false from beq_eq_false_iff_ne.mpr ep]
      rw [if_neg ep] at h
      exact PySem.W.kat_no (TS.oneLt_ints _ h)
theorem swo_ltL {α : Type} (k : α → List Int) : SrtO.Swo fun x y => ltL (k x) (k y) := ⟨fun x y h => ltL_asym h, fun x y z h1 h2 => ltL_tr h1 h2⟩
theorem tup_firsts {h : Heap} : ∀ {vs : List Value}, (∀ v ∈ vs, ∃ ns, TupI h v ns ∧ ns ≠ []) → ∃ fs : List Value, PySem.W.KatTups h vs fs ∧ fs.length = vs.length ∧ ∀ f ∈ fs, ∃ x t, f = Value.int x t
  | [], _ => ⟨[], PySem.W.KatTups.nil, rfl, fun _ hm => by simp at hm⟩
  | v :: vs, hp => by
    obtain ⟨fs, h1, h2, h3⟩ := tup_firsts (vs := vs) fun v' hm => hp v' (List.mem_cons_of_mem _ hm)
    obtain ⟨ns, ⟨a, o, xs, n, e, ho, hc, hd, hi⟩, hne⟩ := hp v (List.mem_cons_self ..)
    subst e
    obtain ⟨l⟩ := xs
    have hi : IntsAre l ns := hi
    cases hi with
    | nil => exact absurd rfl hne
    | @cons x t l' ns' r =>
      refine ⟨.int x t :: fs, PySem.W.KatTups.cons ho hc hd rfl h1, by rw [List.length_cons, List.length_cons, h2], fun f hm => ?_⟩
      rcases List.mem_cons.mp hm with rfl | hm
      · exact ⟨x, t, rfl⟩
      · exact h3 f hm
theorem tups_cmp {vs : List Value} (k : Value → List Int) (hp : ∀ v ∈ vs, TupI s.heap v (k v)) : SrtO.Cmp prog w A s (tuples' true) (fun p => p.1 ∈ vs) (SrtO.lt2 fun v u => ltL (k v) (k u)) := by
  intro p q hm hm'
  obtain ⟨a, o, xs, n, e, ho, hc, hd, hi⟩ := hp _ hm
  obtain ⟨a', o', xs', n', e', ho', hc', hd', hi'⟩ := hp _ hm'
  show wpAny (model prog w) A (keyLt' (tuples' true) p.1 q.1) (fun r s' => s' = s ∧ r = ltL (k p.1) (k q.1)) (fun _ _ => False) s
  generalize k p.1 = ns at hi ⊢
  generalize k q.1 = ms at hi' ⊢
  rw [e, e']
  refine PySem.W.kat_lt ho hd ho' hd' (lex_of 0 hi hi' ?_ ⟨rfl, rfl⟩)
  rw [← hi.length, ← hi'.length, Array.length_toList, Array.length_toList]
theorem tups_sortable {a : Addr} {vs : List Value} (k : Value → List Int) (h0 : 0 < vs.length) (hp : ∀ v ∈ vs, TupI s.heap v (k v) ∧ k v ≠ []) (ha : ∀ o, s.heap.get? a = some o → o.cls ≠ .type "tuple") : SrtO.SortableO prog w A s a vs fun v u => ltL (k v) (k u) := by
  intro h' keep
  have hp' : ∀ v ∈ vs, TupI h' v (k v) := fun v hm => (hp v hm).1.keeps fun b o e c => keep b o (fun z => by subst z; exact ha o e c) e
  obtain ⟨fs, h1, h2, h3⟩ := tup_firsts fun v hm => ⟨_, hp' v hm, (hp v hm).2⟩
  refine ⟨tuples' true, fun Q E hq => ?_, tups_cmp k hp'⟩
  refine PySem.W.kat_kind (T := .type "int") h1 (by omega) (fun f hm => ?_) (by rfl) ?_
  · obtain ⟨x, t, rfl⟩ := h3 f hm
    exact PySem.W.Looks.now
  · have e : (Value.type "int" != Value.type "tuple") = true := by first | decide +kernel | rfl | decide
    rw [e]
    exact hq
theorem sorted_tupsL {l : Addr} {vs : List Value} {Q : Value → Shared → Prop} (k : Value → List Int) (hl : s.heap.IsList l vs.toArray) (hz : vs.length ≤ sizeLine) (hp : ∀ v ∈ vs, TupI s.heap v (k v) ∧ k v ≠ [])
    (h : ∀ (h' : Heap) (d : Addr) (out : List Value), SrtO.Srtd (fun v u => ltL (k v) (k u)) out → SrtO.Stb (fun v u => ltL (k v) (k u)) out vs → (∀ b o, s.heap.get? b = some o → h'.get? b = some o) → s.heap.objs.size ≤ d → (∃ n, h'.get? d = some (seqObj "list" out.toArray n)) → Q (.ref d) { s with heap := h' }) :
    wpAny (model prog w) A (call (.builtin "sorted") [.ref l]) Q E s := by
  refine SrtO.sorted_ord (swo_ltL k) hl hz (fun h2 h₁ a ha kk => ?_) fun out hs hb => ?_
  · refine tups_sortable (s := { s with heap := h₁ }) k (by omega) (fun v hm => ⟨(hp v hm).1.keeps fun b o e _ => (kk b o e).2, (hp v hm).2⟩) fun o e => ?_
    have e' : some o = some (seqObj "list" vs.toArray 0) := e.symm.trans ha
    cases e'
    intro c
    exact absurd (Value.type.inj c) (by decide)
  · exact h _ _ out hs hb (fun b o e => sortedAll_old e) (Nat.le_succ _) (sortedAll_at s.heap vs out.toArray)
end
/-! ### as a rule -/
def IsTI (K : PySem.W.Frag) (H : Hp) (x : V) (ns : List Int) : Prop := (∃ t, x = .ref t ∧ SqT K H t (ns.map V.int)) ∧ ns ≠ []
def rSortTI (K : PySem.W.Frag) : List V → Hp → VK → Prop := fun vs H Q => ∃ (a : Addr) (xs : List V) (nss : List (List Int)), vs = [V.ref a] ∧ SqL K H a xs ∧ xs.length = nss.length ∧ (∀ p ∈ xs.zip nss, IsTI K H p.1 p.2) ∧
  ∀ (ys : List V) (p : Addr), ys.length = nss.length → (ys.zip (sortT nss)).Perm (xs.zip nss) → H p = none → Q (.ref p) (upd H p (.lst ys))
section
variable {X : Cx}
theorem tupI_of {pins : List (Addr × Obj)} {σ : L2.St} {H : Hp} {s : Shared} {x : V} {u : Value} {ns : List Int} (I : Inv X pins σ H s) (r : RelV x u) (h : IsTI X.K H x ns) : TupI s.heap u ns ∧ ns ≠ [] := by
  obtain ⟨⟨t, rfl, hT⟩, hne⟩ := h
  obtain rfl : u = Value.ref t := r
  obtain ⟨its, rv, ⟨o, ho, hc, n, hd⟩, _⟩ := I.tuple hT
  exact ⟨⟨t, o, its.toArray, n, rfl, ho, hc, hd, rv.ints⟩, hne⟩
theorem zip_vals {pins : List (Addr × Obj)} {σ : L2.St} {H : Hp} {s : Shared} (I : Inv X pins σ H s) : ∀ {xs : List V} {us : List Value} {nss : List (List Int)}, Vals xs us → xs.length = nss.length → (∀ p ∈ xs.zip nss, IsTI X.K H p.1 p.2) →
    us.map (atI' s.heap) = nss ∧ xs = us.map backV ∧ ∀ u ∈ us, TupI s.heap u (atI' s.heap u) ∧ atI' s.heap u ≠ [] ∧ ∃ a, u = Value.ref a
  | _, _, [], .nil, _, _ => ⟨rfl, rfl, fun u hu => by simp at hu⟩
  | _, _, _ :: _, .nil, h, _ => by simp at h
  | _, _, [], .cons _ _, h, _ => by simp at h
  | x :: xs, u :: us, ns :: nss, .cons r t, h, k => by
    obtain ⟨q1, q2⟩ := tupI_of I r (k (x, ns) (by simp))
    have e := q1.eq
    obtain ⟨h1, h2, h3⟩ := zip_vals (nss := nss) I t (by simpa using h) fun p hp => k p (by simp [hp])
    obtain ⟨a, _, _, _, ea, _⟩ := id q1
    refine ⟨by rw [List.map_cons, e, h1], ?_, fun v hv => ?_⟩
    · rw [List.map_cons, ← h2]
      subst ea
      cases x with
      | ref b => cases (show Value.ref a = Value.ref b from r); rfl
      | non => cases (show Value.ref a = Value.none from r)
      | bl b => cases (show Value.ref a = Value.bool b from r)
      | ty b => cases (show Value.ref a = Value.type b from r)
      | int b => obtain ⟨_, z⟩ := r; cases z
      | str b => obtain ⟨_, z⟩ := r; cases z
      | byt b => obtain ⟨_, z⟩ := r; cases z
      | flt b => obtain ⟨_, z⟩ := r; cases z
    · rcases List.mem_cons.mp hv with rfl | hv
      · rw [e]; exact ⟨q1, q2, a, ea⟩
      · exact h3 v hv
theorem cr_sortedTI : CallR X (.builtin "sorted") (rSortTI X.K) := by
  intro pins s σ H vs us Q I r h
  obtain ⟨a, xs, nss, rfl, hs, hlen, hx, q⟩ := h
  obtain ⟨its, rv, hl, hz⟩ := I.list hs
  obtain ⟨u, rfl, ru⟩ := vals1 r
  obtain rfl : u = Value.ref a := ru
  obtain ⟨e1, e2, e3⟩ := zip_vals I rv hlen hx
  refine sorted_tupsL (atI' s.heap) hl.isList (by rw [← rv.length]; exact hz) (fun v hv => ⟨(e3 v hv).1, (e3 v hv).2.1⟩) fun h' d out h1 h2 kp hd hn => ?_
  have h3 : ∀ u ∈ out, ∃ a, u = Value.ref a := fun u hu => (e3 u (h2.perm.mem_iff.mp hu)).2.2
  obtain ⟨n, hn⟩ := hn
  have hb : (out.map backV).length ≤ sizeLine := by rw [List.length_map, h2.perm.length_eq, ← rv.length]; exact hz
  have es : out.map (atI' s.heap) = sortT nss := sortT_uniq (by rw [← e1]; exact h2.perm.map _) (List.pairwise_map.mpr h1)
  refine ⟨.ref d, upd H d (.lst (out.map backV)), I.laid (t' := s.toks) kp hd ⟨hb, out, n, vals_back h3, hn⟩, rfl, q _ d ?_ ?_ (I.hok.fresh hd)⟩
  · rw [List.length_map, h2.perm.length_eq, ← rv.length]; exact hlen
  · rw [← es, e2, ← e1, List.zip_map', List.zip_map']
    exact h2.perm.map _
def tupI1 : D → Option (List Int)
  | .tup ds => intsD ds
  | _ => none
def tupsI : List D → Option (List (List Int))
  | [] => some []
  | d :: ds => match tupI1 d, tupsI ds with
    | some ns, some nss => some (ns :: nss)
    | _, _ => none
def tupOf (ns : List Int) : D := .tup (ns.map .int)
def gSortedI : D → Option Rv
  | .lst ds => (intsD ds).bind fun ns => some (.own (.lst ((sortI ns).map .int)))
  | _ => none
def gSortedT : D → Option Rv
  | .lst ds => (tupsI ds).bind fun nss => if nss.all (fun ns => !ns.isEmpty) then some (.own (.lst ((sortT nss).map tupOf))) else none
  | _ => none
theorem fits_sortedI : FitsC X (rSortedI X.K) (uD gSortedI) := FitsC.un fun ρ σ H Z d x rv Q S h e k => by
  unfold gSortedI at e
  split at e
  · rename_i ds
    cases hn : intsD ds with
    | none => rw [hn] at e; cases e
    | some ns =>
      rw [hn] at e; cases e
      obtain ⟨a, rfl, q1⟩ := lst_ints (X := X) S.sub h (show (lstD (.lst ds)).bind intsD = some ns from hn)
      refine ⟨a, ns, rfl, q1, fun ns' p h1 h2 hp => ?_⟩
      rw [sortI_uniq h1 h2]
      exact k _ _ _ (S.new hp) (EStep.new hp) (rv_lst S hp (reps_ints _))
  · cases e
theorem tups_rep {T : Tx} {H Z : Hp} (s : Le Z H) : ∀ {ds : List D} {vs : List V} {nss : List (List Int)}, Reps T Z ds vs → tupsI ds = some nss → nss.all (fun ns => !ns.isEmpty) = true → vs.length = nss.length ∧ ∀ p ∈ vs.zip nss, IsTI T.K H p.1 p.2 ∧ Rep T Z (tupOf p.2) p.1
  | [], vs, nss, r, e, _ => by cases e; rw [show vs = [] from r]; exact ⟨rfl, fun p hp => by simp at hp⟩
  | d :: ds, _, nss, ⟨v, r, ev, q, t⟩, e, ha => by
    unfold tupsI at e
    cases h1 : tupI1 d with
    | none => rw [h1] at e; cases e
    | some ns =>
      cases h2 : tupsI ds with
      | none => rw [h1, h2] at e; cases e
      | some ms =>
        rw [h1, h2] at e; cases e
        subst ev
        rw [List.all_cons, Bool.and_eq_true] at ha
        obtain ⟨g1, g2⟩ := tups_rep s t h2 ha.2
        refine ⟨by simp [g1], fun p hp => ?_⟩
        have hp : p ∈ (v, ns) :: r.zip ms := hp
        rcases List.mem_cons.mp hp with rfl | hp
        · cases d with
          | tup es =>
            obtain ⟨a, ws, rfl, q1, r1⟩ := q
            have e1 := ints_rep r1 h1
            subst e1
            refine ⟨⟨⟨a, rfl, s.sqT q1⟩, ?_⟩, a, _, rfl, q1, reps_ints ns⟩
            intro z; subst z; simp at ha
          | _ => cases h1
        · exact g2 p hp
theorem reps_of {T : Tx} {Z : Hp} : ∀ {ys : List V} {nss : List (List Int)}, ys.length = nss.length → (∀ p ∈ ys.zip nss, Rep T Z (tupOf p.2) p.1) → Reps T Z (nss.map tupOf) ys
  | [], [], _, _ => rfl
  | [], _ :: _, h, _ => by simp at h
  | _ :: _, [], h, _ => by simp at h
  | y :: ys, ns :: nss, h, k => ⟨y, ys, rfl, k (y, ns) (by simp), reps_of (by simpa using h) fun p hp => k p (by simp [hp])⟩
theorem fits_sortedT : FitsC X (rSortTI X.K) (uD gSortedT) := FitsC.un fun ρ σ H Z d x rv Q S h e k => by
  unfold gSortedT at e
  split at e
  · rename_i ds
    cases hn : tupsI ds with
    | none => rw [hn] at e; cases e
    | some nss =>
      rw [hn] at e
      simp only [Option.bind_some] at e
      split at e
      · rename_i ha
        cases e
        obtain ⟨a, vs, rfl, q1, r1⟩ := rd_lst S.sub h
        obtain ⟨g1, g2⟩ := tups_rep S.sub r1 hn ha
        refine ⟨a, vs, nss, rfl, .inl q1, g1, fun p hp => (g2 p hp).1, fun ys p hl hp hf => ?_⟩
        refine k _ _ _ (S.new hf) (EStep.new hf) (rv_lst S hf (reps_of ?_ fun p h => (g2 p (hp.mem_iff.mp h)).2))
        rw [hl, sortT, List.length_mergeSort]
      · cases e
  · cases e
/-! ### x in a flat list or tuple -/
def vOf : D → Option V
  | .non => some .non
  | .bl b => some (.bl b)
  | .int i => some (.int i)
  | .str x => some (.str x)
  | _ => none
def vsOf : List D → Option (List V)
  | [] => some []
  | d :: ds => match vOf d, vsOf ds with
    | some v, some vs => some (v :: vs)
    | _, _ => none
def inF (a b : D) : Option Bool := match vOf a, (seqD b).bind vsOf with
  | some x, some xs => some (inV x xs)
  | _, _ => none
def oInF (a b : D) : Option Rv := (inF a b).bind vB
def oNotInF (a b : D) : Option Rv := (inF a b).bind fun k => vB (!k)
theorem vOf_ok {H Z : Hp} {x : V} {d : D} {v : V} (h : RdOk (tx X) H Z x d) (e : vOf d = some v) : x = v ∧ flatV v = true := by
  cases d with
  | non => cases e; exact ⟨rd_non h, rfl⟩
  | bl b => cases e; exact ⟨rd_bl h, rfl⟩
  | int b => cases e; exact ⟨rd_int h, rfl⟩
  | str b => cases e; exact ⟨rd_str h, rfl⟩
  | _ => cases e
theorem vsOf_ok {H Z : Hp} : ∀ {ds : List D} {vs ws : List V}, Reps (tx X) Z ds vs → vsOf ds = some ws → vs = ws ∧ ws.all flatV = true
  | [], vs, ws, r, e => by cases e; exact ⟨r, rfl⟩
  | d :: ds, _, ws, ⟨v, r, ev, q, t⟩, e => by
    unfold vsOf at e
    cases h1 : vOf d with
    | none => rw [h1] at e; cases e
    | some x =>
      cases h2 : vsOf ds with
      | none => rw [h1, h2] at e; cases e
      | some xs =>
        rw [h1, h2] at e; cases e
        obtain ⟨a1, a2⟩ := vOf_ok (X := X) (H := H) (Z := Z) (.inl q) h1
        obtain ⟨b1, b2⟩ := vsOf_ok (H := H) t h2
        subst ev
        exact ⟨by rw [a1, b1], by rw [List.all_cons, a2, b2]; rfl⟩
theorem inF_ok {H Z : Hp} {x y : V} {a b : D} {k : Bool} (s : Le Z H) (h1 : RdOk (tx X) H Z x a) (h2 : RdOk (tx X) H Z y b) (e : inF a b = some k) : ∃ p xs, y = .ref p ∧ (SqL X.K H p xs ∨ SqT X.K H p xs) ∧ flatV x = true ∧ xs.all flatV = true ∧ k = inV x xs := by
  unfold inF at e
  cases ha : vOf a with
  | none => rw [ha] at e; cases e
  | some v =>
    cases hb : (seqD b).bind vsOf with
    | none => rw [ha, hb] at e; cases e
    | some ws =>
      rw [ha, hb] at e
      cases e
      obtain ⟨rfl, f1⟩ := vOf_ok h1 ha
      cases b with
      | lst ds =>
        obtain ⟨p, vs, rfl, q, r⟩ := rd_lst s h2
        obtain ⟨rfl, f2⟩ := vsOf_ok (X := X) (H := H) r hb
        exact ⟨p, _, rfl, .inl (.inl q), f1, f2, rfl⟩
      | tup ds =>
        obtain ⟨p, vs, rfl, q, r⟩ := rd_tup s h2
        obtain ⟨rfl, f2⟩ := vsOf_ok (X := X) (H := H) r hb
        exact ⟨p, _, rfl, .inr q, f1, f2, rfl⟩
      | _ => cases hb
theorem fits_inF : Fits2 X (rIn X.K false) oInF := by
  intro ρ σ H Z dx dy x y rv Q S h1 h2 e k
  unfold oInF at e
  cases hi : inF dx dy with
  | none => rw [hi] at e; cases e
  | some b =>
    rw [hi] at e; cases e
    obtain ⟨p, xs, rfl, q1, q2, q3, rfl⟩ := inF_ok S.sub h1 h2 hi
    exact ⟨p, xs, rfl, q1, q2, q3, k _ _ _ S (.refl _ _ _ _) rfl⟩
theorem fits_notInF : Fits2 X (rIn X.K true) oNotInF := by
  intro ρ σ H Z dx dy x y rv Q S h1 h2 e k
  unfold oNotInF at e
  cases hi : inF dx dy with
  | none => rw [hi] at e; cases e
  | some b =>
    rw [hi] at e; cases e
    obtain ⟨p, xs, rfl, q1, q2, q3, rfl⟩ := inF_ok S.sub h1 h2 hi
    exact ⟨p, xs, rfl, q1, q2, q3, k _ _ _ S (.refl _ _ _ _) rfl⟩
end
end CI
end
section
set_option maxRecDepth 100000
set_option maxHeartbeats 1000000
/-! CIMod: constants of the module, defs by level, the head's hook. -/
namespace CI
open PySem L2 PyProof.Rows
/-! ### written dicts -/
def WEnts (T : Tx) : List (Key × D) → List DictEntry → Prop
  | [], es => es = []
  | (k, d) :: r, es => ∃ e es', es = e :: es' ∧ keyIs k e.key = true ∧ (∀ w, e.hash = keyH w k) ∧ (∃ v, RelV v e.val ∧ ∀ Z, Rep T Z d v) ∧ WEnts T r es'
/-- the module's name x is a written dict of these -/
structure WDct (X : Ev) (x : Str) (kvs : List (Key × D)) : Prop where
  ex : ∃ a es n, X.mg x = some (.ref a) ∧ X.K.lookup a = some ⟨.type "dict", none, .dict es n, #[]⟩ ∧ WEnts ⟨X.K, X.mg, none⟩ kvs es.toList
def lookK (k : Key) : List (Key × D) → Option D
  | [] => none
  | (k', d) :: r => if k = k' then some d else lookK k r
def keyD : D → Option Key
  | .int i => some (.inl i)
  | .str x => some (.inr x)
  | _ => none
def wgetD (kvs : List (Key × D)) (d : D) : Option Rv := (keyD d).bind fun k => (lookK k kvs).map .val
theorem keyIs_ne {k k' : Key} {v : Value} (h : keyIs k' v = true) (n : k ≠ k') : keyIs k v = false := by
  cases e : keyIs k v with
  | false => rfl
  | true =>
    rcases keyIs_shape h with ⟨i, t, rfl, rfl⟩ | ⟨x, t, rfl, rfl⟩
    · rcases keyIs_shape e with ⟨j, u, rfl, e'⟩ | ⟨y, u, rfl, e'⟩
      · injection e' with e1 _; exact absurd (by rw [e1]) n
      · exact nomatch e'
    · rcases keyIs_shape e with ⟨j, u, rfl, e'⟩ | ⟨y, u, rfl, e'⟩
      · exact nomatch e'
      · injection e' with e1 _; exact absurd (by rw [e1]) n
theorem wents_find {T : Tx} {k : Key} {d : D} : ∀ {kvs : List (Key × D)} {es : List DictEntry}, WEnts T kvs es → lookK k kvs = some d → ∃ e v, es.find? (fun e => keyIs k e.key) = some e ∧ RelV v e.val ∧ ∀ Z, Rep T Z d v
  | [], _, _, h => by cases h
  | (k', d') :: r, _, ⟨e, es', ee, q1, q2, ⟨v, rv, rp⟩, t⟩, h => by
    subst ee
    unfold lookK at h
    by_cases hk : k = k'
    · rw [if_pos hk] at h
      cases h
      subst hk
      exact ⟨e, v, by rw [List.find?_cons, q1], rv, rp⟩
    · rw [if_neg hk] at h
      obtain ⟨e2, v2, f1, f2⟩ := wents_find t h
      exact ⟨e2, v2, by rw [List.find?_cons, keyIs_ne q1 hk]; exact f1, f2⟩
theorem wents_all {T : Tx} : ∀ {kvs : List (Key × D)} {es : List DictEntry}, WEnts T kvs es → ∀ e ∈ es, ∃ k, keyIs k e.key = true ∧ ∀ w, e.hash = keyH w k
  | [], _, h, e, he => by rw [show _ = [] from h] at he; cases he
  | (k', d') :: r, _, ⟨e0, es', ee, q1, q2, _, t⟩, e, he => by
    subst ee
    rcases List.mem_cons.mp he with rfl | he
    · exact ⟨k', q1, q2⟩
    · exact wents_all t e he
def rWD (K : PySem.W.Frag) : R2 := fun x y H Q => ∃ p k es n u v, x = .ref p ∧ y = kV k ∧ K.lookup p = some ⟨.type "dict", none, .dict es n, #[]⟩ ∧ (∀ e ∈ es.toList, ∃ k, keyIs k e.key = true ∧ ∀ w, e.hash = keyH w k) ∧ findBy keyIs es k = some u ∧ RelV v u ∧ Q v H
section
variable {X : Cx} {b : Expr} {cb : Mn Rv} {x : Str} {p pos : Pos}
theorem mapOf_mix {K : PySem.W.Frag} {h : Heap} {prog : Program} {w : World} {a : Addr} {es : Array DictEntry} {n : Nat} (I : K.In h) (hl : K.lookup a = some ⟨.type "dict", none, .dict es n, #[]⟩) (hk : ∀ e ∈ es.toList, ∃ k, keyIs k e.key = true ∧ ∀ w, e.hash = keyH w k) : h.MapOf (mixKind prog w) a (fun k => findBy keyIs es k) :=
  ⟨_, es, n, I _ _ hl, ⟨rfl, rfl, rfl⟩, rfl, fun e he => by
    obtain ⟨k, e1, e2⟩ := hk e (Array.mem_toList_iff.mpr he)
    exact ⟨k, e1, e2 w⟩, fun _ => rfl⟩
theorem ix_wd : IxR X (rWD X.K) := by
  intro value slice pins s σ H x y v u Q I rx ry h hs
  obtain ⟨p, k, es, n, u0, v0, rfl, rfl, hl, hk, e, ru, q⟩ := h
  obtain rfl : v = Value.ref p := rx
  have hm := mapOf_mix (prog := X.prog) (w := X.w) I.kIn hl hk
  exact tail_any hm.typeIs slot_dict_getitem.lookup (wpAny_getItem_of (kV_is ry) hm e ⟨v0, H, I.tok _, ru, q⟩) hs
theorem se_wget {kvs : List (Key × D)} (hc : X.calm = true) (hD : WDct (ev X) x kvs) (hg : Gl X x) (hb : SE X b cb) (hdb : (x == ("__debug__" : Str)) = false := by decide) (hs : PlainIx b := by exact fun _ _ => rfl) : SE X (.Subscript (.Name x p) b pos) (cUn (wgetD kvs) cb) := by
  obtain ⟨a, es, n, hm, hl, we⟩ := hD.ex
  refine ⟨fun W tk => peI (pe_ix ix_wd (pe_glob (v := V.ref a) hg hm rfl hdb) (hb.run W tk) hs) (tE_of fun ρ σ H Z Q S p => ?_)⟩
  unfold cUn cR at p
  rw [bnd_assoc] at p
  refine ⟨ρ, Z, S, p.bnd (k1 := kE) fun r v ρ1 H1 Z1 S1 E1 o1 p1 => ?_⟩
  obtain ⟨rv, e, p2⟩ := Po.ofO p1
  unfold wgetD at e
  have rd := RvOk.read o1
  cases hk : keyD r.d with
  | none => rw [hk] at e; cases e
  | some k =>
    rw [hk] at e
    simp only [Option.bind_some] at e
    cases hl2 : lookK k kvs with
    | none => rw [hl2] at e; cases e
    | some d =>
      rw [hl2] at e; cases e
      obtain ⟨en, vv, f1, f2, f3⟩ := wents_find we hl2
      have ev : v = kV k := by
        generalize r.d = dd at hk rd
        cases dd with
        | int i => cases hk; exact rd_int rd
        | str i => cases hk; exact rd_str rd
        | _ => cases hk
      refine ⟨a, k, es, n, en.val, vv, rfl, ev, hl, wents_all we, ?_, f2, p2 vv H1 Z1 S1 (.refl _ _ _ _) (by rw [tx_calm hc]; exact f3 Z1)⟩
      unfold findBy
      rw [← Array.find?_toList, f1]
      rfl
end
/-! ### constants -/
mutual
def repB (K : PySem.W.Frag) : D → Value → Bool
  | .non, .none => true
  | .bl b, .bool c => b == c
  | .int i, .int j _ => decide (i = j)
  | .str x, .str y _ => decide (x = y)
  | .tup ds, .ref a => (match K.lookup a with
    | some ⟨.type c, _, .seq its _, _⟩ => decide (c = "tuple") && (decide (its.size ≤ sizeLine) && repsB K ds its.toList)
    | _ => false)
  | _, _ => false
def repsB (K : PySem.W.Frag) : List D → List Value → Bool
  | [], [] => true
  | d :: ds, v :: vs => repB K d v && repsB K ds vs
  | _, _ => false
end
mutual
theorem repB_ok {T : Tx} : ∀ {d : D} {u : Value}, repB T.K d u = true → ∃ v, RelV v u ∧ ∀ Z, Rep T Z d v
  | .non, u, h => by
    cases u with
    | none => exact ⟨.non, rfl, fun _ => rfl⟩
    | _ => simp [repB] at h
  | .bl b, u, h => by
    cases u with
    | bool c =>
      have h : (b == c) = true := by simpa [repB] using h
      rw [beq_iff_eq] at h
      subst h
      exact ⟨.bl b, rfl, fun _ => rfl⟩
    | _ => simp [repB] at h
  | .int b, u, h => by
    cases u with
    | int c t =>
      have h : b = c := by simpa [repB] using h
      subst h
      exact ⟨.int b, ⟨t, rfl⟩, fun _ => rfl⟩
    | _ => simp [repB] at h
  | .str b, u, h => by
    cases u with
    | str c t =>
      have h : b = c := by simpa [repB] using h
      subst h
      exact ⟨.str b, ⟨t, rfl⟩, fun _ => rfl⟩
    | _ => simp [repB] at h
  | .tup ds, u, h => by
    cases u with
    | ref a =>
      unfold repB at h
      cases q : T.K.lookup a with
      | none => rw [q] at h; cases h
      | some o =>
        obtain ⟨oc, od, dt, osl⟩ := o
        rw [q] at h
        cases oc with
        | type c =>
          cases dt with
          | seq its n =>
            have h : (decide (c = "tuple") && (decide (its.size ≤ sizeLine) && repsB T.K ds its.toList)) = true := h
            simp only [Bool.and_eq_true, decide_eq_true_eq] at h
            obtain ⟨vs, r, rp⟩ := repsB_ok h.2.2
            refine ⟨.ref a, rfl, fun Z => ⟨a, vs, rfl, .inr ⟨_, its, n, q, ?_, rfl, h.2.1, r⟩, rp Z⟩⟩
            rw [h.1]
          | _ => cases h
        | _ => cases dt <;> cases h
    | _ => simp [repB] at h
  | .lst _, u, h => by cases u <;> simp [repB] at h
  | .dic _, u, h => by cases u <;> simp [repB] at h
  | .obj _ _, u, h => by cases u <;> simp [repB] at h
  | .glo _, u, h => by cases u <;> simp [repB] at h
theorem repsB_ok {T : Tx} : ∀ {ds : List D} {us : List Value}, repsB T.K ds us = true → ∃ vs, Vals vs us ∧ ∀ Z, Reps T Z ds vs
  | [], [], _ => ⟨[], .nil, fun _ => rfl⟩
  | [], _ :: _, h => by simp [repsB] at h
  | _ :: _, [], h => by simp [repsB] at h
  | d :: ds, u :: us, h => by
    unfold repsB at h
    rw [Bool.and_eq_true] at h
    obtain ⟨v, r, rp⟩ := repB_ok h.1
    obtain ⟨vs, rs, rps⟩ := repsB_ok h.2
    exact ⟨v :: vs, .cons r rs, fun Z => ⟨v, vs, rfl, rp Z, rps Z⟩⟩
end
def cstB (K : PySem.W.Frag) (x : Str) (d : D) : Bool := match PySem.W.nsIn K mainGlobals x with
  | some (some u) => repB K d u
  | _ => false
def entsB (K : PySem.W.Frag) : List (Int × D) → List DictEntry → Bool
  | [], [] => true
  | (i, d) :: r, e :: es => (match e.key with
    | .int j _ => decide (i = j)
    | _ => false) && (decide (e.hash = hashInt i) && (repB K d e.val && entsB K r es))
  | _, _ => false
def dctB (K : PySem.W.Frag) (x : Str) (kvs : List (Int × D)) : Bool := match PySem.W.nsIn K mainGlobals x with
  | some (some (.ref a)) => (match K.lookup a with
    | some ⟨.type c, none, .dict es _, sl⟩ => decide (c = "dict") && (sl.isEmpty && entsB K kvs es.toList)
    | _ => false)
  | _ => false
def inlK (kvs : List (Int × D)) : List (Key × D) := kvs.map fun p => (.inl p.1, p.2)
theorem entsB_ok {T : Tx} : ∀ {kvs : List (Int × D)} {es : List DictEntry}, entsB T.K kvs es = true → WEnts T (inlK kvs) es
  | [], [], _ => rfl
  | [], _ :: _, h => by simp [entsB] at h
  | _ :: _, [], h => by simp [entsB] at h
  | (i, d) :: r, e :: es, h => by
    obtain ⟨eh, ek, ev⟩ := e
    unfold entsB at h
    simp only [Bool.and_eq_true, decide_eq_true_eq] at h
    obtain ⟨h1, h2, h3, h4⟩ := h
    refine ⟨_, es, rfl, ?_, fun w => h2, repB_ok h3, entsB_ok h4⟩
    cases ek with
    | int j t =>
      have h1 : i = j := by simpa using h1
      subst h1
      exact keyIs_int i t
    | _ => simp at h1
section
variable {K : PySem.W.Frag} {h : Heap} {mg : Str → Option Value} {P : Program} {w : World} {base : Heap} {A : Around} {x : Str}
theorem cst_ok {d : D} (I : K.In h) (G : h.Ns mainGlobals mg) (c : cstB K x d = true) : ∃ u v, mg x = some u ∧ RelV v u ∧ ∀ Z, Rep ⟨K, mg, none⟩ Z d v := by
  unfold cstB at c
  cases q : PySem.W.nsIn K mainGlobals x with
  | none => rw [q] at c; cases c
  | some o =>
    rw [q] at c
    cases o with
    | none => cases c
    | some u =>
      obtain ⟨v, r, rp⟩ := repB_ok (T := ⟨K, mg, none⟩) c
      exact ⟨u, v, PySem.W.mg_of I G q, r, rp⟩
theorem dct_ok {kvs : List (Int × D)} (I : K.In h) (G : h.Ns mainGlobals mg) (c : dctB K x kvs = true) : WDct ⟨P, w, K, mg, base, A⟩ x (inlK kvs) := by
  unfold dctB at c
  cases q : PySem.W.nsIn K mainGlobals x with
  | none => rw [q] at c; cases c
  | some o =>
    rw [q] at c
    cases o with
    | none => cases c
    | some u =>
      cases u with
      | ref a =>
        simp only at c
        cases q2 : K.lookup a with
        | none => rw [q2] at c; cases c
        | some o =>
          obtain ⟨oc, od, dt, osl⟩ := o
          rw [q2] at c
          cases oc with
          | type cn =>
            cases od with
            | none =>
              cases dt with
              | dict es n =>
                have c : (decide (cn = "dict") && (osl.isEmpty && entsB K kvs es.toList)) = true := c
                simp only [Bool.and_eq_true, decide_eq_true_eq] at c
                refine ⟨a, es, n, PySem.W.mg_of I G q, ?_, entsB_ok (T := ⟨K, mg, none⟩) c.2.2⟩
                rw [q2, c.1, Array.isEmpty_iff.mp c.2.1]
              | _ => cases c
            | some dd => cases dt <;> cases c
          | _ => cases od <;> cases dt <;> cases c
      | _ => cases c
/-! ### defs by level -/
theorem COk.lv {f : Addr} {fd : FuncData} {ps : List Str} {G : List Rv → Res} {n m : Nat} (hm : mg x = some (.ref f)) (kp : PySem.W.keepIn K (.ref f) = true) (hb : Binds K fd ps []) (FO : FnOk P w K mg base (L2.CX P w) (2 * n) f fd ps (spF ⟨K, mg, none⟩ G ps.length)) (hr : Room (2 * n + 1) A) (hl : ps.length = m) : COk ⟨P, w, K, mg, base, A⟩ x G m := by
  subst hl
  exact ⟨2 * n, f, fd, ps, [], [], [], G, hm, kp, hb, .nil, fun _ => rfl, fun rs => by simp, FO, by simp, hr.mono (by omega)⟩
theorem MOk.lv {C f : Addr} {fd : FuncData} {ps : List Str} {G : List Rv → Res} {n m : Nat} (hm : mg x = some (.ref C)) (M : L2.Mk K C f) (hb : Binds K fd ps []) (FO : FnOk P w K mg base (L2.CX P w) (2 * n) f fd ps (spI ⟨K, mg, none⟩ x G ps.length)) (hr : Room (2 * n + 1) A) (hl : ps.length = m + 1) (hG : ∀ rs r, G rs = .ok r → ∃ fs, r = .val (.obj x fs)) : MOk ⟨P, w, K, mg, base, A⟩ x G m :=
  ⟨2 * n, C, f, fd, ps, [], [], [], G, hm, M, hb, .nil, fun _ => rfl, fun rs => by simp, FO, by simp; omega, hr, hG⟩
theorem make_obj {tb : Str → Option Ent} {d : FnI} (ht : tb x = some (.init d)) : ∀ (n : Nat) (rs : List Rv) (r : Rv), callF tb n x rs = .ok r → ∃ fs, r = .val (.obj x fs)
  | 0, rs, r, h => by cases h
  | n + 1, rs, r, h => by
    unfold callF at h
    rw [ht] at h
    simp only at h
    unfold runInit at h
    split at h
    · unfold initEnd at h
      split at h
      · split at h
        · split at h
          · cases h; exact ⟨_, rfl⟩
          · cases h
        · cases h
      · cases h
      · cases h
    · cases h
/-- nothing is promised at level 0 -/
theorem fn_zero {tb : Str → Option Ent} {f : Addr} {fd : FuncData} {ps : List Str} {k : Nat} : FnOk P w K mg base (L2.CX P w) k f fd ps (spF ⟨K, mg, none⟩ (callF tb 0 x) ps.length) :=
  ⟨fun vs H Q E ⟨_, _, _, _, e, _⟩ => e, fun A outer s H args us vs Q E _ _ _ _ ⟨_, _, _, _, _, z⟩ => z.elim⟩
theorem init_zero {tb : Str → Option Ent} {f : Addr} {fd : FuncData} {ps : List Str} {k : Nat} : FnOk P w K mg base (L2.CX P w) k f fd ps (spI ⟨K, mg, none⟩ x (callF tb 0 x) ps.length) :=
  ⟨fun vs H Q E ⟨_, _, _, _, _, _, _, _, _, _, _, _, _, _, e, _⟩ => e, fun A outer s H args us vs Q E _ _ _ _ ⟨_, _, _, _, _, _, _, _, _, _, _, _, _, _, _, z⟩ => z.elim⟩
theorem callF_fn {tb : Str → Option Ent} {d : FnI} {n : Nat} (h : tb x = some (.fn d)) : callF tb (n + 1) x = runFn d (callF tb n) := by
  funext rs; show (match tb x with | some (.fn d) => _ | some (.init d) => _ | none => _) = _; rw [h]
theorem callF_init {tb : Str → Option Ent} {d : FnI} {n : Nat} (h : tb x = some (.init d)) : callF tb (n + 1) x = runInit x d (callF tb n) := by
  funext rs; show (match tb x with | some (.fn d) => _ | some (.init d) => _ | none => _) = _; rw [h]
/-! ### errors -/
def isecB (K : PySem.W.Frag) (D : Addr) : Bool := decide (PySem.W.findIn K (.ref D) "__getattribute__" = some (some (.builtin "BaseException.__getattribute__"))) && (decide (PySem.W.findIn K (.ref D) "__getattr__" = some none) && (decide (PySem.W.subIn K (.ref D) (.type "BaseException") = some true) && (PySem.W.hasDictIn K D &&
  (decide (PySem.W.findIn K (.ref D) "__class__" = some (some (.builtin "object.__class__"))) && (decide (PySem.W.specialIn K (.builtin "object.__class__") "__get__" = some (some (.builtin "getset_descriptor.__get__"))) && (decide (PySem.W.takesIn K (.builtin "object.__class__") = some true) && decide (PySem.W.mroIn K D (.type "object") = some true)))))))
theorem isecB_ok {D : Addr} (c : isecB K D = true) : L2.ExcC K D := by
  unfold isecB at c
  simp only [Bool.and_eq_true, decide_eq_true_eq] at c
  exact ⟨c.1, c.2.1, c.2.2.1, c.2.2.2.1, c.2.2.2.2.1, c.2.2.2.2.2.1, c.2.2.2.2.2.2.1, c.2.2.2.2.2.2.2⟩
/-- the class that a name of the text or of the language means -/
inductive Cn where
  | own (x : Str) | ty (t : String)
def Cn.v (K : PySem.W.Frag) : Cn → Value
  | .own x => .ref (He.ga K x)
  | .ty t => .type t
/-- which of these classes are of c -/
def suB (K : PySem.W.Frag) (c : Cn) (l : List (Str × Bool)) : Bool := l.all fun p => decide (PySem.W.exmOne K (.ref (He.ga K p.1)) (c.v K) = some p.2)
def isB (K : PySem.W.Frag) (c : Cn) (l : List (Str × Bool)) : Bool := l.all fun p => isecB K (He.ga K p.1) && decide (PySem.W.kitOne K (.ref (He.ga K p.1)) (c.v K) = some p.2)
def suF (l : List (Str × Bool)) (x : Str) : Option Bool := l.lookup x
theorem lookup_mem' {β : Type} {x : Str} {b : β} : ∀ {l : List (Str × β)}, l.lookup x = some b → (x, b) ∈ l
  | [], h => by cases h
  | (y, c) :: r, h => by
    rw [List.lookup_cons] at h
    cases q : (x == y) with
    | true =>
      rw [q] at h
      cases h
      rw [beq_iff_eq] at q
      subst q
      exact List.mem_cons_self
    | false => rw [q] at h; exact List.mem_cons_of_mem _ (lookup_mem' h)
theorem su_ok {c : Cn} {l : List (Str × Bool)} (hg : ∀ p ∈ l, mg p.1 = some (.ref (He.ga K p.1))) (h : suB K c l = true) : SubOk ⟨P, w, K, mg, base, A⟩ (c.v K) (suF l) := fun x C b e hm => by
  have hp := lookup_mem' e
  have h1 := List.all_eq_true.mp h _ hp
  have h2 : mg x = some (.ref (He.ga K x)) := hg _ hp
  have hm := h2.symm.trans hm
  cases hm
  exact of_decide_eq_true h1
theorem isE_ok {c : Cn} {l : List (Str × Bool)} (hg : ∀ p ∈ l, mg p.1 = some (.ref (He.ga K p.1))) (h : isB K c l = true) : IsEOk ⟨P, w, K, mg, base, A⟩ (c.v K) (suF l) := fun x C b e hm => by
  have hp := lookup_mem' e
  have h1 := List.all_eq_true.mp h _ hp
  have h2 : mg x = some (.ref (He.ga K x)) := hg _ hp
  have hm := h2.symm.trans hm
  cases hm
  rw [Bool.and_eq_true, decide_eq_true_eq] at h1
  exact ⟨isecB_ok h1.1, h1.2⟩
end
/-! ### the hook: no written lists -/
def isLst (o : Obj) : Bool := match o.cls with
  | .type t => decide (t = "list")
  | _ => false
def frN (g : Addr → Option Obj) (as : List Addr) : PySem.W.Frag := (He.frG g as).filter fun q => !isLst q.2
theorem frN_mem {g : Addr → Option Obj} {as : List Addr} {a : Addr} {o : Obj} (h : (frN g as).lookup a = some o) : g a = some o ∧ isLst o = false := by
  obtain ⟨h1, h2⟩ := List.mem_filter.mp (He.lookup_mem h)
  exact ⟨He.frG_mem h1, by simpa using h2⟩
structure SaysL (fa : List He.Fa) (fn : List He.DefD) (ex : PySem.W.Frag → Bool) (K : PySem.W.Frag) : Prop where
  d : He.SaysD fa fn K
  more : ex K = true
  nol : ∀ a o, K.lookup a = some o → isLst o = false
abbrev AlL : Type := He.AlD × Bool
def obsL (n : Nat) (fa : List He.Fa) (fn : List He.DefD) (ex : PySem.W.Frag → Bool) (g : Addr → Option Obj) : AlL := (He.obsD fa fn (frN g (He.asD g n)), ex (frN g (He.asD g n)))
def hookL (n : Nat) (fa : List He.Fa) (fn : List He.DefD) (ex : PySem.W.Frag → Bool) : PySem.W.Hook where
  α := AlL
  obs := fun s => obsL n fa fn ex s.heap.get?
  val := fun _ => (He.valD fn, true)
  says := fun _ h => ∃ K : PySem.W.Frag, K.In h ∧ SaysL fa fn ex K
  of := fun _ _ e => ⟨_, fun _ _ h => (frN_mem h).1, ⟨congrArg (fun z : AlL => z.1) e, congrArg (fun z : AlL => z.2) e, fun _ _ h => (frN_mem h).2⟩⟩
  keeps := fun _ _ _ ⟨K, hK, c⟩ k => ⟨K, PySem.W.Frag.In.keeps hK k, c⟩
theorem obsL_eq {n : Nat} {fa : List He.Fa} {fn : List He.DefD} {ex : PySem.W.Frag → Bool} {g : Addr → Option Obj} {s : Shared} (h : ∀ a, g a = s.heap.get? a) : obsL n fa fn ex g = (hookL n fa fn ex).obs s := by
  have e : g = s.heap.get? := funext h
  rw [e] <;> rfl
theorem SaysL.fact {fa : List He.Fa} {fn : List He.DefD} {ex : PySem.W.Frag → Bool} {K : PySem.W.Frag} (c : SaysL fa fn ex K) (f : He.Fa) (h : f ∈ fa) : f.ok K = true := He.SaysD.facts c.d h
/-- the law's promise at its script -/
theorem law_sp {T : Tx} {G : List Rv → Res} {H : Hp} {a : Addr} {ns : List Int} (nol : ∀ a o, T.K.lookup a = some o → isLst o = false) (hS : SqL T.K H a (ns.map V.int)) (h : G [.val (.lst (ns.map D.int))] = .ok (.val (.bl true))) : spF T G 1 [.ref a] H (fun v _ => v = .bl true) fun _ _ _ => False := by
  have r : Rd H a (.lst (ns.map V.int)) := by
    rcases hS with r | ⟨o, its, n, q, c, _⟩
    · exact r
    · have := nol a o q
      unfold isLst at this
      rw [c] at this
      simp at this
  refine ⟨H, [.val (.lst (ns.map D.int))], .refl _, ⟨⟨a, _, rfl, r, reps_ints ns⟩, trivial⟩, rfl, ?_⟩
  unfold CPost
  rw [h]
  exact fun v H' Z' _ q => q
end CI
end
section
set_option maxRecDepth 100000
/-! CIPar: a, b = x, y of names; rules joined. -/
namespace CI
open PySem L2 PyProof.Rows
def cPar (i j : Nat) (c : Mn (List D)) : Mn Fl := bnd c fun ds => match ds with
  | [d, e] => fun ρ => .ok .nx ((ρ.set i (.val d)).set j (.val e))
  | _ => stk
section
variable {X : Cx}
theorem ss_par {i j : Nat} {x y : Str} {a b : Expr} {cs : Mn (List D)} {px py pt pos : Pos} {kt k2 pt2} (hc : X.calm = true) (hN : X.N.Nodup) (hi : X.N[i]? = some x) (hj : X.N[j]? = some y) (hij : i ≠ j)
    (hx : X.env.scope.names.lookup x = some .local) (hy : X.env.scope.names.lookup y = some .local) (ha : SDs X [a, b] cs)
    (hw : swappedStores [.Tuple [.Name x px, .Name y py] kt pt] (.Tuple [a, b] k2 pt2) X.env = pure (some [x, y]))
    (hs : swapsWithSole [.Tuple [.Name x px, .Name y py] kt pt] (.Tuple [a, b] k2 pt2) pos.line X.env = pure false := by rfl) :
    SS X (.Assign [.Tuple [.Name x px, .Name y py] kt pt] (.Tuple [a, b] k2 pt2) pos) (cPar i j cs) :=
  ⟨fun W tk => psI (ps_par hc hN hi hj hij hx hy (ha.run W tk) hw hs) (tS_of fun ρ σ H Z Dn S p => ⟨ρ, Z, S, p.bnd (k := kDs) fun ds vs ρ1 H1 Z1 S1 E1 o1 p1 => by
    match ds, vs, o1, p1 with
    | [], _, _, p1 => exact p1.elim
    | [_], _, _, p1 => exact p1.elim
    | _ :: _ :: _ :: _, _, _, p1 => exact p1.elim
    | [d, e], vs, ⟨v, r, ev, q, w, r2, ew, q2, e3⟩, p1 =>
      subst ev
      subst ew
      subst e3
      refine ⟨v, w, rfl, ?_⟩
      have S2 : SOk (tx X) (ρ1.set i (.val d)) (σ.set i (some v)) H1 Z1 := S1.store (fun _ z => by cases z) ⟨v, rfl, q⟩ fun _ _ z => by cases z
      have S3 : SOk (tx X) ((ρ1.set i (.val d)).set j (.val e)) ((σ.set i (some v)).set j (some w)) H1 Z1 := S2.store (fun _ z => by cases z) ⟨w, rfl, q2⟩ fun _ _ z => by cases z
      exact p1 _ H1 Z1 S3 ((Step.store (T := tx X) (fun _ z => by cases z) fun _ z => by cases z).trans (.store (T := tx X) (fun _ z => by cases z) fun _ z => by cases z))⟩)⟩
/-! joined rules -/
def orF (f g : D → D → Option Rv) (a b : D) : Option Rv := match f a b with
  | some r => some r
  | none => g a b
theorem Fits2.or {r r' : R2} {f g : D → D → Option Rv} (h : Fits2 X r f) (h' : Fits2 X r' g) : Fits2 X (fun x y H Q => r x y H Q ∨ r' x y H Q) (orF f g) := by
  intro ρ σ H Z dx dy x y rv Q S h1 h2 e k
  unfold orF at e
  cases q : f dx dy with
  | some r0 => rw [q] at e; cases e; exact .inl (h S h1 h2 q k)
  | none => rw [q] at e; exact .inr (h' S h1 h2 e k)
def orL (f g : List D → Option Rv) (a : List D) : Option Rv := match f a with
  | some r => some r
  | none => g a
theorem FitsC.or {r r' : List V → Hp → VK → Prop} {f g : List D → Option Rv} (h : FitsC X r f) (h' : FitsC X r' g) : FitsC X (fun xs H Q => r xs H Q ∨ r' xs H Q) (orL f g) := by
  refine ⟨fun ρ σ H Z vs rs rv Q S a e k => ?_⟩
  unfold orL at e
  cases q : f (rs.map Rv.d) with
  | some r0 => rw [q] at e; cases e; exact .inl (h.run _ _ _ _ _ _ _ _ S a q k)
  | none => rw [q] at e; exact .inr (h'.run _ _ _ _ _ _ _ _ S a e k)
def inS (a b : D) : Option Bool := match a, b with
  | .str i, .str j => some (!(Builtin.Str.occurrences j i 0 j.length 1).isEmpty)
  | _, _ => none
def oInS (a b : D) : Option Rv := (inS a b).bind vB
def oNotInS (a b : D) : Option Rv := (inS a b).bind fun k => vB (!k)
theorem fits_inS : Fits2 X (fun x y H Q => ∃ i j, x = .str i ∧ y = .str j ∧ Q (.bl (!(Builtin.Str.occurrences j i 0 j.length 1).isEmpty)) H) oInS := by
  intro ρ σ H Z dx dy x y rv Q S h1 h2 e k
  unfold oInS inS at e
  split at e
  · cases e; exact ⟨_, _, rd_str h1, rd_str h2, k _ _ _ S (.refl _ _ _ _) rfl⟩
  · cases e
theorem fits_notInS : Fits2 X (fun x y H Q => ∃ i j, x = .str i ∧ y = .str j ∧ Q (.bl (!(!(Builtin.Str.occurrences j i 0 j.length 1).isEmpty))) H) oNotInS := by
  intro ρ σ H Z dx dy x y rv Q S h1 h2 e k
  unfold oNotInS inS at e
  split at e
  · cases e; exact ⟨_, _, rd_str h1, rd_str h2, k _ _ _ S (.refl _ _ _ _) rfl⟩
  · cases e
/-- in, not in -/
def oIn : D → D → Option Rv := orF oInF (orF oInL oInS)
def oNotIn : D → D → Option Rv := orF oNotInF (orF oNotInL oNotInS)
def rInA (K : PySem.W.Frag) : R2 := fun x y H Q => rIn K false x y H Q ∨ (rInD K x y H Q ∨ (∃ i j, x = .str i ∧ y = .str j ∧ Q (.bl (!(Builtin.Str.occurrences j i 0 j.length 1).isEmpty)) H))
def rNotInA (K : PySem.W.Frag) : R2 := fun x y H Q => rIn K true x y H Q ∨ (rNotInD K x y H Q ∨ (∃ i j, x = .str i ∧ y = .str j ∧ Q (.bl (!(!(Builtin.Str.occurrences j i 0 j.length 1).isEmpty))) H))
theorem op_in (hu : X.A.units + 65 < cLine) : OpR X (compareOp .In) (rInA X.K) := OpR.or op_in_seq (OpR.or (op_inD hu) op_in_str)
theorem op_notIn (hu : X.A.units + 65 < cLine) : OpR X (compareOp .NotIn) (rNotInA X.K) := OpR.or op_notIn_seq (OpR.or (op_notInD hu) op_notIn_str)
theorem fits_in : Fits2 X (rInA X.K) oIn := Fits2.or fits_inF (Fits2.or fits_inL fits_inS)
theorem fits_notIn : Fits2 X (rNotInA X.K) oNotIn := Fits2.or fits_notInF (Fits2.or fits_notInL fits_notInS)
def gSorted : List D → Option Rv := orL (uD gSortedI) (uD gSortedT)
def rSortA (K : PySem.W.Frag) : List V → Hp → VK → Prop := fun vs H Q => rSortedI K vs H Q ∨ rSortTI K vs H Q
theorem cr_sortA : CallR X (.builtin "sorted") (rSortA X.K) := CallR.or cr_sortedI cr_sortedTI
theorem fits_sorted : FitsC X (rSortA X.K) gSorted := FitsC.or fits_sortedI fits_sortedT
/-! comparisons as tests -/
def cTst (c : Mn Rv) : Mn Bool := bnd c fun r => ofO (blD r.d)
theorem tst_ok {W : WX} {c : Mn Rv} {t : TE} (h : ∀ σ H Q, tK kE (tx X) W c σ H Q → t σ H Q) : ∀ σ H Q, tK kB (tx X) W (cTst c) σ H Q → tTest t σ H Q := fun σ H Q ⟨ρ, Z, S, p⟩ => h σ H _ ⟨ρ, Z, S, p.bnd (k1 := kE) fun r v ρ1 H1 Z1 S1 E1 o1 p1 => by
  obtain ⟨k, e, p2⟩ := Po.ofO p1
  have rd := RvOk.read o1
  generalize r.d = d at e rd
  cases d with
  | bl b => cases e; exact ⟨_, rd_bl rd, Po.out (k := kB) p2 S1 rfl⟩
  | _ => cases e⟩
theorem st_cmp {op : CmpOp} {r : R2} {f : D → D → Option Rv} {a b : Expr} {ca cb : Mn Rv} {pos : Pos} (ho : OpR X (compareOp op) r) (hf : Fits2 X r f) (ha : SE X a ca) (hb : SE X b cb) (hm : behindInMarks op b = false := by rfl) : STt X (.Compare a [op] [b] pos) (cTst (cBin f ca cb)) :=
  ⟨fun W tk => ptI (pt_cmpR ho (ha.run W tk) (hb.run W tk) hm) (tst_ok (bin_ok hf))⟩
theorem chain_ok {W : WX} {r r' : R2} {f g : D → D → Option Rv} {ca cb cc : Mn Rv} (hf : Fits2 X r f) (hg : Fits2 X r' g) : ∀ σ H Q, tK kE (tx X) W (cChain f g ca cb cc) σ H Q → tChain r r' (tK kE (tx X) W ca) (tK kE (tx X) W cb) (tK kE (tx X) W cc) σ H Q := tE_of fun ρ σ H Z Q S p => ⟨ρ, Z, S, p.bnd (k1 := kE) fun r1 v1 ρ1 H1 Z1 S1 E1 o1 p1 => ⟨ρ1, Z1, S1, p1.bnd (k1 := kE) fun r2 v2 ρ2 H2 Z2 S2 E2 o2 p2 => by
    cases hq : f r1.d r2.d with
    | none => rw [hq] at p2; exact p2.elim
    | some rv =>
      rw [hq] at p2
      cases hk : blR (some rv) with
      | none => rw [hk] at p2; exact p2.elim
      | some k =>
        rw [hk] at p2
        have erv : rv = .val (.bl k) := by
          unfold blR at hk
          split at hk
          · rename_i b hb; cases hk; exact Option.some.inj hb
          · cases hk
        subst erv
        refine hf S2 ((RvOk.read o1).mono E2.same E2.step.le) (RvOk.read o2) hq fun v H' Z' S' E' o' => ⟨k, o', ?_⟩
        have p3 := p2.later E'
        cases k with
        | true =>
          refine ⟨ρ2, Z', S', Po.bnd (k1 := kE) p3 fun r3 v3 ρ3 H3 Z3 S3 E3 o3 p4 => ?_⟩
          obtain ⟨rv, e, p5⟩ := p4.ofO
          exact hg S3 ((RvOk.read o2).mono (E'.same.trans E3.same) (E'.step.le.trans E3.step.le)) (RvOk.read o3) e fun v H' Z' S' E' o' => p5 v H' Z' S' E' o'
        | false => exact Po.out (k := kE) (a := .val (.bl false)) p3 S' rfl⟩⟩
theorem st_chain {op op' : CmpOp} {r r' : R2} {f g : D → D → Option Rv} {a b c : Expr} {ca cb cc : Mn Rv} {pos : Pos} (ho : OpR X (compareOp op) r) (ho' : OpR X (compareOp op') r') (hf : Fits2 X r f) (hg : Fits2 X r' g) (ha : SE X a ca) (hb : SE X b cb) (hc : SE X c cc)
    (hm : lastMarks [op, op'] [b, c] = false := by with_unfolding_all rfl) : STt X (.Compare a [op, op'] [b, c] pos) (cTst (cChain f g ca cb cc)) :=
  ⟨fun W tk => ptI (pt_chain ho ho' (ha.run W tk) (hb.run W tk) (hc.run W tk) hm) (tst_ok (chain_ok hf hg))⟩
/-- in a def -/
theorem units_ok {A : Around} {k : Nat} (h : Room k A) : A.units + 65 < cLine := by have := h.un; omega
/-- a block's own names, checked -/
def blkB (N : List Str) (sc scope : Scope) (own : List (Str × Nat)) : Bool := decide (scope.kind = .function) && (scope.names.all (fun y => decide (scope.names.lookup y.1 = some y.2)) && (own.all (fun p => decide (N[p.2]? = some p.1)) &&
  (scope.names.all (fun y => !decide (y.2 = .free) || (decide (sc.names.lookup y.1 = some .cell) || decide (sc.names.lookup y.1 = some .free))) &&
    scope.names.all (fun y => !(decide (y.2 = .local) || decide (y.2 = .cell)) || ((own.map (·.1)).any (fun x => decide (x = y.1)) || !(N.any (fun x => decide (x = y.1))))))))
theorem blkB_ok {N : List Str} {sc scope : Scope} {own : List (Str × Nat)} (h : blkB N sc scope own = true) : L2.BlkOk N sc scope own := by
  unfold blkB at h
  simp only [Bool.and_eq_true, decide_eq_true_eq] at h
  obtain ⟨h1, h2, h3, h4, h5⟩ := h
  refine ⟨h1, fun y hy => ?_, fun p hp => ?_, fun y hy e => ?_, fun y hy e => ?_⟩
  · exact of_decide_eq_true (List.all_eq_true.mp h2 y hy)
  · exact of_decide_eq_true (List.all_eq_true.mp h3 p hp)
  · have q := List.all_eq_true.mp h4 y hy
    simp only [e, decide_true, Bool.not_true, Bool.false_or, Bool.or_eq_true, decide_eq_true_eq] at q
    exact q
  · have q := List.all_eq_true.mp h5 y hy
    have e2 : (decide (y.2 = .local) || decide (y.2 = .cell)) = true := by simpa using e
    rw [e2] at q
    simp only [Bool.not_true, Bool.false_or, Bool.or_eq_true, Bool.not_eq_true', List.any_eq_true, List.any_eq_false, decide_eq_true_eq] at q
    rcases q with ⟨x, hx, rfl⟩ | q
    · exact .inl hx
    · exact .inr fun hx => q _ hx rfl
theorem vis1 {s : Scope} {x : Str} (h : s.names.lookup x = some .local) : Vis s x := .inl h
theorem vis2 {s : Scope} {x : Str} (h : s.names.lookup x = some .cell) : Vis s x := .inr (.inl h)
theorem vis3 {s : Scope} {x : Str} (h : s.names.lookup x = some .free) : Vis s x := .inr (.inr h)
theorem loc1 {s : Scope} {x : Str} (h : s.names.lookup x = some .local) : Loc s x := .inl h
theorem loc2 {s : Scope} {x : Str} (h : s.names.lookup x = some .cell) : Loc s x := .inr h
end
end CI
end
section
set_option maxRecDepth 100000
/-! CIEnd: defs by levels, the law's end. -/
namespace CI
open PySem L2 PyProof.Rows
section
variable {P : Program} {w : World} {K : PySem.W.Frag} {mg : Str → Option Value} {base : Heap} {x y qual : Str} {params : Arguments} {body : List Stmt} {scope : Scope} {f : Addr} {fd : FuncData} {N ps : List Str} {d : FnI} {tb : Str → Option Ent} {n : Nat}
/-- what a def's derivation says -/
abbrev Der (P : Program) (w : World) (K : PySem.W.Frag) (mg : Str → Option Value) (base : Heap) (N : List Str) (qual : Str) (scope : Scope) (f : Addr) (body : List Stmt) (m : Nat) (c : Mn Fl) : Prop :=
  ∀ (cdv : Value) (A : Around) (outer : List Env) (s : Shared) (H : Hp) (E : XK), Room (2 * m + 1) (A.deeper (envOfC qual scope s.heap.objs.size f cdv)) → SSs (cxOf (L2.CX P w) P w K mg base N qual scope f cdv A outer s H E) body c
theorem fnOk_lv (Fd : FunD K y qual params body scope [] [] f fd) (S : FnScope N ps scope) (hp : ps.length = d.np) (hN : N.length = d.ns) (ht : tb x = some (.fn d)) (n : Nat) (hb : ∀ m, n = m + 1 → Der P w K mg base N qual scope f body m (d.body (callF tb m))) :
    FnOk P w K mg base (L2.CX P w) (2 * n) f fd ps (spF ⟨K, mg, none⟩ (callF tb n x) ps.length) := by
  cases n with
  | zero => exact fn_zero
  | succ m =>
    rw [callF_fn ht]
    exact fn_ok (k := 2 * m + 1) Fd S hp hN fun cdv A outer s H E hr => hb m rfl cdv A outer s H E hr
theorem initOk_lv (Fd : FunD K y qual params body scope [] [] f fd) (S : FnScope N ps scope) (hp : ps.length = d.np) (hN : N.length = d.ns) (ht : tb x = some (.init d)) (n : Nat) (hb : ∀ m, n = m + 1 → Der P w K mg base N qual scope f body m (d.body (callF tb m))) :
    FnOk P w K mg base (L2.CX P w) (2 * n) f fd ps (spI ⟨K, mg, none⟩ x (callF tb n x) ps.length) := by
  cases n with
  | zero => exact init_zero
  | succ m =>
    rw [callF_init ht]
    exact init_ok (k := 2 * m + 1) Fd S hp hN fun cdv A outer s H E hr => hb m rfl cdv A outer s H E hr
theorem cOk_all (F : ∃ fd, FunD K y qual params body scope [] [] f fd) (S : FnScope N ps scope) (hp : ps.length = d.np) (hN : N.length = d.ns) (ht : tb x = some (.fn d)) (hm : mg x = some (.ref f)) (hbd : ∀ fd, FunD K y qual params body scope [] [] f fd → Binds K fd ps []) {k : Nat} (hk : ps.length = k)
    (hb : ∀ m, n = m + 1 → Der P w K mg base N qual scope f body m (d.body (callF tb m))) (A : Around) (hr : Room (2 * n + 1) A) : COk ⟨P, w, K, mg, base, A⟩ x (callF tb n x) k := by
  obtain ⟨fd, Fd⟩ := F
  exact COk.lv hm Fd.kp (hbd fd Fd) (fnOk_lv Fd S hp hN ht n hb) hr hk
theorem mOk_all {C : Addr} (F : ∃ fd, FunD K y qual params body scope [] [] f fd) (S : FnScope N ps scope) (hp : ps.length = d.np) (hN : N.length = d.ns) (ht : tb x = some (.init d)) (hm : mg x = some (.ref C)) (M : L2.Mk K C f) (hbd : ∀ fd, FunD K y qual params body scope [] [] f fd → Binds K fd ps []) {k : Nat} (hk : ps.length = k + 1)
    (hb : ∀ m, n = m + 1 → Der P w K mg base N qual scope f body m (d.body (callF tb m))) (A : Around) (hr : Room (2 * n + 1) A) : MOk ⟨P, w, K, mg, base, A⟩ x (callF tb n x) k := by
  obtain ⟨fd, Fd⟩ := F
  exact MOk.lv hm M (hbd fd Fd) (initOk_lv Fd S hp hN ht n hb) hr hk fun rs r h => make_obj ht n rs r h
/-- a law's end, its errors in the world's own terms -/
theorem walk_end {l : PySem.W.OpenLaw} {most k : Nat} {q : Program} {loose : List Str} {XP : (Str → Option Value) → Heap → Prop} {YP : World → Heap → Prop} {dr : DefRec} {x : Str}
    (h1 : l.most = some most) (h2 : most ≤ sizeLine) (h3 : dr.params.defaults = []) (h4 : Room k callerA)
    (F : ∀ (w : World) (mg : Str → Option Value) (fa : Addr) (h : Heap), YP w h → h.Ns mainGlobals mg → mg dr.name = some (.ref fa) →
      ∃ (K : PySem.W.Frag) (fd : FuncData) (sp : Sp), K.In h ∧ (∀ (s : Shared) (u : Value), BindsTo s fd ⟨[u], []⟩ [(x, u)]) ∧
        (∀ (H : Hp) (a : Addr) (ns : List Int), ns.length ≤ most → SqL K H a (ns.map V.int) → sp [.ref a] H (fun v _ => v = .bl true) fun _ _ _ => False) ∧
        ∀ base : Heap, K.In base → base.Ns mainGlobals mg → FnOk l.prog w K mg base (L2.CX l.prog w) k fa fd [x] sp) :
    PySem.W.WalkO q loose XP YP l.row.toRowW dr [] (fun f vs => PySem.call f vs) := by
  refine Att.attach_call h1 h3 fun w _ s1 mg mb fa _ _ _ _ a vs ns G Y _ _ _ hmg hob hin hle hge => ?_
  obtain ⟨K, fd, sp, KX, hbi, hsp, hF⟩ := F w mg fa _ Y G.T.g hmg
  refine law_call KX G.T.g G.T.b G.T.builtins G.T.nolimit hge hob hin (Nat.le_trans hle h2) h4 hF hbi (fun H _ hS => hsp H a ns hle hS) fun H e s2 c => ?_
  obtain ⟨_, _, _, _, _, _, _, _, _, _, _, _, z⟩ := c
  exact z
end
end CI
end
section
set_option maxRecDepth 100000
/-! CIEv: the combinators as rewriting rules; loops. -/
namespace CI
open PySem L2
section
variable {α β : Type} {ρ ρ' : En} {i j : Nat} {d : D} {r : Rv}
@[simp] theorem ev_ret (a : α) : (ret a : Mn α) ρ = .ok a ρ := by exact Eq.trans rfl rfl
@[simp] theorem ev_stk : (stk : Mn α) ρ = .stuck := by exact Eq.trans rfl rfl
def bndK (o : Out α) (f : α → Mn β) : Out β := match o with
  | .ok a ρ' => f a ρ'
  | .exc x ρ' => .exc x ρ'
  | .stuck => .stuck
@[simp] theorem bk1 (a : α) (f : α → Mn β) : bndK (.ok a ρ) f = f a ρ := by exact Eq.trans rfl rfl
@[simp] theorem bk2 (x : Exc) (f : α → Mn β) : bndK (.exc x ρ) f = .exc x ρ := by exact Eq.trans rfl rfl
@[simp] theorem bk3 (f : α → Mn β) : bndK .stuck f = .stuck := by exact Eq.trans rfl rfl
@[simp] theorem ev_bnd (m : Mn α) (f : α → Mn β) : bnd m f ρ = bndK (m ρ) f := by exact Eq.trans rfl rfl
def seqK (o : Out Fl) (b : Mn Fl) : Out Fl := match o with
  | .ok .nx ρ' => b ρ'
  | o => o
@[simp] theorem sk1 (b : Mn Fl) : seqK (.ok .nx ρ) b = b ρ := by exact Eq.trans rfl rfl
@[simp] theorem sk2 (b : Mn Fl) : seqK (.ok (.ret r) ρ) b = .ok (.ret r) ρ := by exact Eq.trans rfl rfl
@[simp] theorem sk3 (b : Mn Fl) : seqK (.ok .brk ρ) b = .ok .brk ρ := by exact Eq.trans rfl rfl
@[simp] theorem sk4 (b : Mn Fl) : seqK (.ok .cnt ρ) b = .ok .cnt ρ := by exact Eq.trans rfl rfl
@[simp] theorem sk5 (x : Exc) (b : Mn Fl) : seqK (.exc x ρ) b = .exc x ρ := by exact Eq.trans rfl rfl
@[simp] theorem sk6 (b : Mn Fl) : seqK .stuck b = .stuck := by exact Eq.trans rfl rfl
@[simp] theorem ev_ofO (a : α) : ((ofO (some a) : Mn α)) ρ = (ret a) ρ := by exact Eq.trans rfl rfl
@[simp] theorem ev_ofN : ((ofO none : Mn α)) ρ = (stk) ρ := by exact Eq.trans rfl rfl
@[simp] theorem ev_cst (d : D) : (cCst d) ρ = (ret (.val d)) ρ := by exact Eq.trans rfl rfl
@[simp] theorem ev_seq (a b : Mn Fl) : cSeq a b ρ = seqK (a ρ) b := by exact Eq.trans rfl rfl
@[simp] theorem ev_ifS (t : Mn Bool) (a b : Mn Fl) : (cIfS t a b) ρ = (bnd t fun k => if k = true then a else b) ρ := by exact Eq.trans rfl rfl
@[simp] theorem ev_cpass : (cPass) ρ = (ret .nx) ρ := by exact Eq.trans rfl rfl
@[simp] theorem ev_cR (c : Mn Rv) : (cR c) ρ = (bnd c fun r => ret r.d) ρ := by exact Eq.trans rfl rfl
@[simp] theorem ev_cV (c : Mn Rv) : (cV c) ρ = (bnd c fun r => ofO (vD r)) ρ := by exact Eq.trans rfl rfl
@[simp] theorem ev_cA (c : Mn Rv) : (cA c) ρ = (bnd c fun r => ret (aR r)) ρ := by exact Eq.trans rfl rfl
@[simp] theorem ev_vD1 : vD (.val d) = some d := by exact Eq.trans rfl rfl
@[simp] theorem ev_vD2 : vD (.own d) = some d := by exact Eq.trans rfl rfl
@[simp] theorem ev_vD3 : vD (.bor d) = none := by exact Eq.trans rfl rfl
@[simp] theorem ev_aR1 : aR (.val d) = .val d := by exact Eq.trans rfl rfl
@[simp] theorem ev_aR2 : aR (.own d) = .val d := by exact Eq.trans rfl rfl
@[simp] theorem ev_aR3 : aR (.bor d) = .bor d := by exact Eq.trans rfl rfl
@[simp] theorem ev_d1 : (Rv.val d).d = d := by exact Eq.trans rfl rfl
@[simp] theorem ev_d2 : (Rv.own d).d = d := by exact Eq.trans rfl rfl
@[simp] theorem ev_d3 : (Rv.bor d).d = d := by exact Eq.trans rfl rfl
@[simp] theorem ev_nil : ((cNil : Mn (List α))) ρ = (ret []) ρ := by exact Eq.trans rfl rfl
@[simp] theorem ev_cons (a : Mn α) (b : Mn (List α)) : (cCons a b) ρ = (bnd a fun x => bnd b fun xs => ret (x :: xs)) ρ := by exact Eq.trans rfl rfl
@[simp] theorem ev_un (f : D → Option Rv) (a : Mn Rv) : (cUn f a) ρ = (bnd (cR a) fun x => ofO (f x)) ρ := by exact Eq.trans rfl rfl
@[simp] theorem ev_bin (f : D → D → Option Rv) (a b : Mn Rv) : (cBin f a b) ρ = (bnd (cR a) fun x => bnd (cR b) fun y => ofO (f x y)) ρ := by exact Eq.trans rfl rfl
theorem ev_var : cVar i ρ = match ρ[i]? with
  | some (.val d) => .ok (.val d) ρ
  | some (.own d) => .ok (.bor d) ρ
  | some (.bor d) => .ok (.bor d) ρ
  | _ => .stuck := rfl
@[simp] theorem ev_var1 (h : ρ[i]? = some (.val d)) : cVar i ρ = .ok (.val d) ρ := by rw [ev_var, h]
@[simp] theorem ev_var2 (h : ρ[i]? = some (.own d)) : cVar i ρ = .ok (.bor d) ρ := by rw [ev_var, h]
@[simp] theorem ev_var3 (h : ρ[i]? = some (.bor d)) : cVar i ρ = .ok (.bor d) ρ := by rw [ev_var, h]
@[simp] theorem ev_frz1 (h : ρ[i]? = some (.val d)) : cFrz i ρ = .ok (.val d) ρ := by unfold cFrz; rw [h]
@[simp] theorem ev_frz2 (h : ρ[i]? = some (.own d)) : cFrz i ρ = .ok (.val d) (ρ.set i (.val d)) := by unfold cFrz; rw [h]
@[simp] theorem ev_mv1 (h : ρ[i]? = some (.val d)) : cMv i ρ = .ok (.val d) ρ := by unfold cMv; rw [h]
@[simp] theorem ev_mv2 {xs : List D} (h : ρ[i]? = some (.own (.lst xs))) : cMv i ρ = .ok (.own (.lst xs)) (ρ.set i .emp) := by unfold cMv; rw [h]; rfl
@[simp] theorem ev_ciV1 (h : ρ[i]? = some (.val d)) : ciVar i ρ = ofO (seqD d) ρ := by unfold ciVar; rw [h]
@[simp] theorem ev_ciV3 (h : ρ[i]? = some (.bor d)) : ciVar i ρ = ofO (seqD d) ρ := by unfold ciVar; rw [h]
@[simp] theorem ev_qV1 (h : ρ[i]? = some (.val d)) : qV i ρ = .ok d ρ := by unfold qV; rw [h]
@[simp] theorem ev_qV3 (h : ρ[i]? = some (.bor d)) : qV i ρ = .ok d ρ := by unfold qV; rw [h]
@[simp] theorem ev_need {xs : List D} (h : ρ[i]? = some (.own (.lst xs))) : needOwn i ρ = .ok () ρ := by unfold needOwn; rw [h]
@[simp] theorem ev_mut {f : D → Option D} {d' : D} (h : ρ[i]? = some (.own d)) (e : f d = some d') : mutU i f ρ = .ok () (ρ.set i (.own d')) := by unfold mutU; rw [h]; simp [e]
@[simp] theorem ev_app (c : Mn Rv) : cApp i c ρ = (bnd (needOwn i) fun _ => bnd (cV c) fun d => bnd (mutU i (appD d)) fun _ => ret .nx) ρ := by exact Eq.trans rfl rfl
@[simp] theorem ev_appD {xs : List D} (h : xs.length < sizeLine) : appD d (.lst xs) = some (.lst (xs ++ [d])) := by show (if _ then _ else _) = _; rw [if_pos h]
@[simp] theorem ev_sub (k : Mn Rv) : tSub i k d ρ = (bnd (needOwn i) fun _ => bnd (cR k) fun kd => mutU i (setD kd d)) ρ := by exact Eq.trans rfl rfl
theorem ixN_nat {n k : Nat} (h : k < n) : ixN n (k : Int) = some k := by unfold ixN; rw [if_pos (by omega), if_pos (by omega)]; simp
@[simp] theorem ev_setD {xs : List D} {k : Nat} (h : k < xs.length) : setD (.int (k : Int)) d (.lst xs) = some (.lst (xs.set k d)) := by
  show (ixN xs.length (k : Int)).map _ = _
  rw [ixN_nat h]; rfl
@[simp] theorem ev_sd1 (xs : List D) : seqD (.lst xs) = some xs := by exact Eq.trans rfl rfl
@[simp] theorem ev_sd2 (xs : List D) : seqD (.tup xs) = some xs := by exact Eq.trans rfl rfl
@[simp] theorem ev_rg1 (c : Mn Rv) : (ciRg1 c) ρ = (bnd (cCons (cA c) cNil) fun rs => match rs with
  | [r] => ofO (rg1 r.d)
  | _ => stk) ρ := by exact Eq.trans rfl rfl
@[simp] theorem ev_rg2 (a b : Mn Rv) : (ciRg2 a b) ρ = (bnd (cCons (cA a) (cCons (cA b) cNil)) fun rs => match rs with
  | [r, q] => ofO (rg2 r.d q.d)
  | _ => stk) ρ := by exact Eq.trans rfl rfl
@[simp] theorem ev_as1 : argSl (.val d) = .val d := by exact Eq.trans rfl rfl
@[simp] theorem ev_as2 : argSl (.bor d) = .bor d := by exact Eq.trans rfl rfl
@[simp] theorem ev_start (ns : Nat) (rs : List Rv) : startE ns rs = rs.map argSl ++ List.replicate (ns - rs.length) .emp := by exact Eq.trans rfl rfl
@[simp] theorem ev_ro1 : resOf (.ok (.ret (.val d)) ρ) = .ok (.val d) := by exact Eq.trans rfl rfl
@[simp] theorem ev_ro2 : resOf (.ok (.ret (.own d)) ρ) = .ok (.own d) := by exact Eq.trans rfl rfl
@[simp] theorem ev_ro3 : resOf (.ok .nx ρ) = .ok (.val .non) := by exact Eq.trans rfl rfl
@[simp] theorem ev_ro4 (x : Exc) : resOf (.exc x ρ) = .exc x := by exact Eq.trans rfl rfl
@[simp] theorem ev_tr (c : Mn Rv) : (cTr c) ρ = (bnd c fun r => ofO (truD r.d)) ρ := by exact Eq.trans rfl rfl
@[simp] theorem ev_tst (c : Mn Rv) : (cTst c) ρ = (bnd c fun r => ofO (blD r.d)) ρ := by exact Eq.trans rfl rfl
@[simp] theorem ev_not (c : Mn Bool) : (cNot c) ρ = (bnd c fun k => ret (!k)) ρ := by exact Eq.trans rfl rfl
@[simp] theorem ev_and (a b : Mn Bool) : (cAnd a b) ρ = (bnd a fun k => if k = true then b else ret false) ρ := by exact Eq.trans rfl rfl
@[simp] theorem ev_or (a b : Mn Bool) : (cOr a b) ρ = (bnd a fun k => if k = true then ret true else b) ρ := by exact Eq.trans rfl rfl
@[simp] theorem ev_notV (a : Mn Rv) : (cNotV a) ρ = (bnd a fun r => bnd (ofO (blD r.d)) fun k => ret (.val (.bl (!k)))) ρ := by exact Eq.trans rfl rfl
@[simp] theorem ev_andV (a b : Mn Rv) : (cAndV a b) ρ = (bnd a fun r => bnd (ofO (blD r.d)) fun k => if k = true then b else ret (.val (.bl false))) ρ := by exact Eq.trans rfl rfl
@[simp] theorem ev_orV (a b : Mn Rv) : (cOrV a b) ρ = (bnd a fun r => bnd (ofO (blD r.d)) fun k => if k = true then ret (.val (.bl true)) else b) ρ := by exact Eq.trans rfl rfl
@[simp] theorem ev_if (t : Mn Bool) (a b : Mn Rv) : (cIf t a b) ρ = (bnd t fun k => if k = true then a else b) ρ := by exact Eq.trans rfl rfl
@[simp] theorem ev_bl (b : Bool) : blD (.bl b) = some b := by exact Eq.trans rfl rfl
@[simp] theorem ev_tbl (b : Bool) : truD (.bl b) = some b := by exact Eq.trans rfl rfl
@[simp] theorem ev_expr (c : Mn Rv) : (cExpr c) ρ = (bnd c fun _ => ret .nx) ρ := by exact Eq.trans rfl rfl
@[simp] theorem ev_cret (c : Mn Rv) : (cRet c) ρ = (bnd c retR) ρ := by exact Eq.trans rfl rfl
@[simp] theorem ev_retR1 : (retR (.val d)) ρ = (ret (.ret (.val d))) ρ := by exact Eq.trans rfl rfl
@[simp] theorem ev_retR2 : (retR (.own d)) ρ = (ret (.ret (.own d))) ρ := by exact Eq.trans rfl rfl
@[simp] theorem ev_retR3 : (retR (.bor d)) ρ = (stk) ρ := by exact Eq.trans rfl rfl
@[simp] theorem ev_retN : (cRetN) ρ = (ret (.ret (.val .non))) ρ := by exact Eq.trans rfl rfl
@[simp] theorem ev_set (c : Mn Rv) : (cSet i c) ρ = (bnd c fun r ρ => match slOf r with
  | some s => .ok .nx (ρ.set i s)
  | none => .stuck) ρ := by exact Eq.trans rfl rfl
@[simp] theorem ev_sl1 : slOf (.val d) = some (.val d) := by exact Eq.trans rfl rfl
@[simp] theorem ev_sl2 : slOf (.own d) = some (.own d) := by exact Eq.trans rfl rfl
@[simp] theorem ev_setT (t : Tg) (c : Mn D) : (cSetT t c) ρ = (bnd c fun d => bnd (t d) fun _ => ret .nx) ρ := by exact Eq.trans rfl rfl
@[simp] theorem ev_tNm : tNm i d ρ = .ok () (ρ.set i (.val d)) := by exact Eq.trans rfl rfl
@[simp] theorem ev_tAll0 : (tAll [] []) ρ = (ret ()) ρ := by exact Eq.trans rfl rfl
@[simp] theorem ev_tAll1 (t : Tg) (ts : List Tg) (d : D) (ds : List D) : (tAll (t :: ts) (d :: ds)) ρ = (bnd (t d) fun _ => tAll ts ds) ρ := by exact Eq.trans rfl rfl
@[simp] theorem ev_tTup (ts : List Tg) (ds : List D) : (tTup ts (.tup ds)) ρ = (if ds.length = ts.length then tAll ts ds else stk) ρ := by exact Eq.trans rfl rfl
@[simp] theorem ev_blt (f : List D → Option Rv) (cs : Mn (List Rv)) : (cBlt f cs) ρ = (bnd cs fun rs => ofO (f (rs.map Rv.d))) ρ := by exact Eq.trans rfl rfl
@[simp] theorem ev_uD (g : D → Option Rv) (a : D) : uD g [a] = g a := by exact Eq.trans rfl rfl
@[simp] theorem ev_bD (g : D → D → Option Rv) (a b : D) : bD g [a, b] = g a b := by exact Eq.trans rfl rfl
@[simp] theorem ev_call (G : List Rv → Res) (cs : Mn (List Rv)) : (cCallG G cs) ρ = (bnd cs fun rs => ofRes (G rs)) ρ := by exact Eq.trans rfl rfl
@[simp] theorem ev_res1 : (ofRes (.ok r)) ρ = (ret r) ρ := by exact Eq.trans rfl rfl
@[simp] theorem ev_res2 (x : Exc) : ofRes (.exc x) ρ = .exc x ρ := by exact Eq.trans rfl rfl
@[simp] theorem ev_tup (c : Mn (List D)) : (cTup c) ρ = (bnd c fun ds => if sz ds.length = true then ret (.val (.tup ds)) else stk) ρ := by exact Eq.trans rfl rfl
@[simp] theorem ev_lst (c : Mn (List D)) : (cLst c) ρ = (bnd c fun ds => if sz ds.length = true then ret (.own (.lst ds)) else stk) ρ := by exact Eq.trans rfl rfl
@[simp] theorem ev_cSl (c : Mn Rv) (l h : Mn (Option Int)) : (cSl c l h) ρ = (bnd c fun r => bnd l fun lo => bnd h fun hi => ofO (slD r.d lo hi)) ρ := by exact Eq.trans rfl rfl
@[simp] theorem ev_part (c : Mn Rv) : (cPart c) ρ = (bnd c fun r => ofO (oI r.d)) ρ := by exact Eq.trans rfl rfl
@[simp] theorem ev_nopart : (cNoPart) ρ = (ret none) ρ := by exact Eq.trans rfl rfl
@[simp] theorem ev_yes : (cYes) ρ = (ret true) ρ := by exact Eq.trans rfl rfl
@[simp] theorem ev_fld (cs : List Str) (f : Str) (c : Mn Rv) : (cFld cs f c) ρ = (bnd c fun r => bnd (ofO (fldD cs f r.d)) fun d => ret (.val d)) ρ := by exact Eq.trans rfl rfl
@[simp] theorem ev_for (it : Mn (List D)) (t : Tg) (body : Mn Fl) : (cFor it t body) ρ = (bnd it fun ds => forL t body ds) ρ := by exact Eq.trans rfl rfl
@[simp] theorem ev_ciSeq (c : Mn Rv) : (ciSeq c) ρ = (bnd c fun r => ofO (seqR r)) ρ := by exact Eq.trans rfl rfl
@[simp] theorem ev_seq1 (xs : List D) : seqR (.val (.lst xs)) = some xs := by exact Eq.trans rfl rfl
@[simp] theorem ev_seq2 (xs : List D) : seqR (.own (.lst xs)) = some xs := by exact Eq.trans rfl rfl
@[simp] theorem ev_seq3 (xs : List D) : seqR (.val (.tup xs)) = some xs := by exact Eq.trans rfl rfl
/-! values -/
@[simp] theorem v_vI (a : Int) : vI a = some (.val (.int a)) := by exact Eq.trans rfl rfl
@[simp] theorem v_vB (a : Bool) : vB a = some (.val (.bl a)) := by exact Eq.trans rfl rfl
@[simp] theorem v_vS (a : Str) : vS a = some (.val (.str a)) := by exact Eq.trans rfl rfl
@[simp] theorem v_add (a b : Int) : oAdd (.int a) (.int b) = some (.val (.int (a + b))) := by exact Eq.trans rfl rfl
@[simp] theorem v_sub (a b : Int) : oSub (.int a) (.int b) = some (.val (.int (a - b))) := by exact Eq.trans rfl rfl
@[simp] theorem v_mul (a b : Int) : oMul (.int a) (.int b) = if mulOk a b then some (.val (.int (a * b))) else none := by exact Eq.trans rfl rfl
@[simp] theorem v_fdiv (a b : Int) : oFdiv (.int a) (.int b) = if divOk b then some (.val (.int (a.fdiv b))) else none := by exact Eq.trans rfl rfl
@[simp] theorem v_mod (a b : Int) : oMod (.int a) (.int b) = if b ≠ 0 then some (.val (.int (a.fmod b))) else none := by exact Eq.trans rfl rfl
@[simp] theorem v_neg (a : Int) : oNeg (.int a) = some (.val (.int (-a))) := by exact Eq.trans rfl rfl
@[simp] theorem v_lt (a b : Int) : oLt (.int a) (.int b) = some (.val (.bl (decide (a < b)))) := by exact Eq.trans rfl rfl
@[simp] theorem v_le (a b : Int) : oLe (.int a) (.int b) = some (.val (.bl (decide (a ≤ b)))) := by exact Eq.trans rfl rfl
@[simp] theorem v_gt (a b : Int) : oGt (.int a) (.int b) = some (.val (.bl (decide (b < a)))) := by exact Eq.trans rfl rfl
@[simp] theorem v_ge (a b : Int) : oGe (.int a) (.int b) = some (.val (.bl (decide (b ≤ a)))) := by exact Eq.trans rfl rfl
@[simp] theorem v_len1 (xs : List D) : gLen (.lst xs) = some (.val (.int xs.length)) := by exact Eq.trans rfl rfl
@[simp] theorem v_len2 (xs : List D) : gLen (.tup xs) = some (.val (.int xs.length)) := by exact Eq.trans rfl rfl
@[simp] theorem v_int (a : Int) : gInt (.int a) = some (.val (.int a)) := by exact Eq.trans rfl rfl
@[simp] theorem v_intb (b : Bool) : gInt (.bl b) = some (.val (.int (if b then 1 else 0))) := by exact Eq.trans rfl rfl
@[simp] theorem v_abs (a : Int) : gAbs (.int a) = some (.val (.int (if a < 0 then -a else a))) := by exact Eq.trans rfl rfl
@[simp] theorem v_max (a b : Int) : gMax2 (.int a) (.int b) = some (.val (.int (if b > a then b else a))) := by exact Eq.trans rfl rfl
@[simp] theorem v_list1 (xs : List D) : gList (.lst xs) = some (.own (.lst xs)) := by exact Eq.trans rfl rfl
@[simp] theorem v_list2 (xs : List D) : gList (.tup xs) = some (.own (.lst xs)) := by exact Eq.trans rfl rfl
@[simp] theorem v_tup1 (xs : List D) : gTuple (.lst xs) = some (.val (.tup xs)) := by exact Eq.trans rfl rfl
@[simp] theorem v_tup2 (xs : List D) : gTuple (.tup xs) = some (.val (.tup xs)) := by exact Eq.trans rfl rfl
theorem atI_nat {γ : Type} (xs : List γ) (k : Nat) : atI xs (k : Int) = xs[k]? := by
  unfold atI ixN
  by_cases h : k < xs.length
  · rw [if_pos (by omega), if_pos (by omega)]
    simp
  · rw [if_pos (by omega), if_neg (by omega), List.getElem?_eq_none (by omega)]
    rfl
@[simp] theorem v_ix1 (xs : List D) (k : Nat) : ixD (.lst xs) (.int (k : Int)) = xs[k]?.map Rv.val := by
  show (atI xs (k : Int)).map Rv.val = _
  rw [atI_nat]
@[simp] theorem v_ix2 (xs : List D) (k : Nat) : ixD (.tup xs) (.int (k : Int)) = xs[k]?.map Rv.val := by
  show (atI xs (k : Int)).map Rv.val = _
  rw [atI_nat]
@[simp] theorem rgD_len (lo : Int) (n : Nat) : (rgD lo n).length = n := by simp [rgD]
theorem sz_ok {k : Nat} (h : k ≤ sizeLine) : sz k = true := by unfold sz; exact decide_eq_true h
@[simp] theorem sz_0 : sz 0 = true := sz_ok (Nat.zero_le _)
theorem call_fn {tb : Str → Option Ent} {x : Str} {d : FnI} {n : Nat} {rs : List Rv} (ht : tb x = some (.fn d)) (h : rs.length = d.np) : callF tb (n + 1) x rs = resOf (d.body (callF tb n) (startE d.ns rs)) := by
  rw [callF_fn ht]
  unfold runFn
  rw [if_pos h]
theorem call_init {tb : Str → Option Ent} {x : Str} {d : FnI} {n : Nat} {rs : List Rv} (ht : tb x = some (.init d)) (h : rs.length + 1 = d.np) : callF tb (n + 1) x rs = initEnd x (d.body (callF tb n) (.own (.obj x []) :: startE (d.ns - 1) rs)) := by
  rw [callF_init ht]
  unfold runInit
  rw [if_pos h]
@[simp] theorem v_eqI (a b : Int) : oEq (.int a) (.int b) = some (.val (.bl (decide (a = b)))) := by
  have h1 : SeqAt.shaped (.int a) = true := rfl
  have h2 : SeqAt.shaped (.int b) = true := rfl
  have h3 : PyData.eqv (.int a) (.int b) = (a == b) := by simp [PyData.eqv]
  simp only [oEq, eqD, pyOf, h1, h2, h3, Bool.and_self, if_true, Option.bind_some, v_vB]
  rfl
@[simp] theorem v_neI (a b : Int) : oNe (.int a) (.int b) = some (.val (.bl (!decide (a = b)))) := by
  have h1 : SeqAt.shaped (.int a) = true := rfl
  have h2 : SeqAt.shaped (.int b) = true := rfl
  have h3 : PyData.eqv (.int a) (.int b) = (a == b) := by simp [PyData.eqv]
  simp only [oNe, eqD, pyOf, h1, h2, h3, Bool.and_self, if_true, Option.bind_some, v_vB]
  rfl
/-! loops -/
/-- a for loop by what holds between its turns -/
theorem forL_inv {t : Tg} {body : Mn Fl} {ds : List D} (I : Nat → En → Prop) : ∀ {i : Nat} {ρ : En}, I i ρ → (∀ (k : Nat) (d : D) (ρ : En), i ≤ k → ds[k - i]? = some d → I k ρ → ∃ ρ1 ρ2, t d ρ = .ok () ρ1 ∧ body ρ1 = .ok .nx ρ2 ∧ I (k + 1) ρ2) → ∃ ρ', forL t body ds ρ = .ok .nx ρ' ∧ I (i + ds.length) ρ' := by
  induction ds with
  | nil => intro i ρ h _; exact ⟨ρ, rfl, h⟩
  | cons d ds ih =>
    intro i ρ h hs
    obtain ⟨ρ1, ρ2, h1, h2, h3⟩ := hs i d ρ (Nat.le_refl _) (by simp) h
    obtain ⟨ρ', e, q⟩ := ih (i := i + 1) h3 fun k d ρ hk hd hi => hs k d ρ (by omega) (by
      rw [show k - i = (k - (i + 1)) + 1 by omega]
      simpa using hd) hi
    refine ⟨ρ', ?_, by rw [List.length_cons]; rw [show i + (ds.length + 1) = i + 1 + ds.length by omega]; exact q⟩
    unfold forL
    simp only [ev_bnd, h1, bk1, h2]
    exact e
/-- a comprehension whose turns give g -/
theorem lcL_fm {t : Tn} {cond : Mn Bool} {elt : Mn Rv} {vs : List Nat} (g : D → Option D) : ∀ {ds acc : List D} {ρ : En}, acc.length + ds.length ≤ sizeLine → (∀ d ∈ ds, ∃ ρ1 ρ2, setTn t d ρ = some ρ1 ∧ lcTurn cond elt ρ1 = some (g d, ρ2) ∧ wipeE ρ2 vs = ρ) → lcL t cond elt vs ds acc ρ = some (acc ++ ds.filterMap g, ρ)
  | [], acc, ρ, _, _ => by simp [lcL]
  | d :: ds, acc, ρ, hz, h => by
    obtain ⟨ρ1, ρ2, h1, h2, h3⟩ := h d List.mem_cons_self
    have hz' : acc.length + (ds.length + 1) ≤ sizeLine := hz
    unfold lcL
    rw [h1, Option.bind_some, h2, Option.bind_some]
    cases hg : g d with
    | none =>
      simp only
      rw [h3, lcL_fm g (by omega) fun d hd => h d (List.mem_cons_of_mem _ hd), List.filterMap_cons, hg]
    | some y =>
      simp only
      rw [if_pos (by omega), h3, lcL_fm g (by simp; omega) fun d hd => h d (List.mem_cons_of_mem _ hd), List.filterMap_cons, hg]
      simp
theorem ev_lc {it : Mn (List D)} {t : Tn} {cond : Mn Bool} {elt : Mn Rv} {vs : List Nat} {ds : List D} {ρ ρ1 : En} {q : List D × En} (h1 : it ρ = .ok ds ρ1) (h2 : (okOwn ρ1 vs && t.ix.all fun i => vs.contains i) = true) (h3 : lcL t cond elt vs ds [] (wipeE ρ1 vs) = some q) : cLc it t cond elt vs ρ = .ok (.own (.lst q.1)) (restE ρ1 q.2 vs) := by
  unfold cLc
  rw [ev_bnd, h1, bk1]
  simp only [h3]
  rw [if_pos h2]
theorem lcL_map {t : Tn} {elt : Mn Rv} {vs : List Nat} (g : D → D) {ds acc : List D} {ρ : En} (hz : acc.length + ds.length ≤ sizeLine) (h : ∀ d ∈ ds, ∃ ρ1 ρ2, setTn t d ρ = some ρ1 ∧ cV elt ρ1 = .ok (g d) ρ2 ∧ wipeE ρ2 vs = ρ) : lcL t cYes elt vs ds acc ρ = some (acc ++ ds.map g, ρ) := by
  have := lcL_fm (t := t) (cond := cYes) (elt := elt) (vs := vs) (fun d => some (g d)) hz fun d hd => by
    obtain ⟨ρ1, ρ2, h1, h2, h3⟩ := h d hd
    refine ⟨ρ1, ρ2, h1, ?_, h3⟩
    unfold lcTurn
    simp only [ev_yes, ev_ret, h2]
  rw [this]
  simp
/-- one name as the target, a state that stands -/
theorem lcL_nm {i : Nat} {elt : Mn Rv} (g : D → D) {ds : List D} {ρ : En} (he : ρ[i]? = some .emp) (hz : ds.length ≤ sizeLine) (h : ∀ d ∈ ds, cV elt (ρ.set i (.val d)) = .ok (g d) (ρ.set i (.val d))) : lcL (.nm i) cYes elt [i] ds [] ρ = some (ds.map g, ρ) := by
  have := lcL_map (t := .nm i) (elt := elt) (vs := [i]) g (ds := ds) (acc := []) (ρ := ρ) (by simpa using hz) fun d hd => ⟨_, _, rfl, h d hd, by
    show ((ρ.set i (.val d)).set i .emp) = ρ
    rw [List.set_set]
    apply List.ext_getElem?
    intro j
    by_cases hj : i = j
    · subst hj
      have hl : i < ρ.length := by
        rcases Nat.lt_or_ge i ρ.length with w | w
        · exact w
        · rw [List.getElem?_eq_none w] at he; cases he
      rw [List.getElem?_set_self hl, he]
    · rw [List.getElem?_set_ne hj]⟩
  simpa using this
end
end CI
end
section
set_option maxRecDepth 100000
/-! CIEq: comparing tuples of ints, looking for them in lists. -/
namespace CI
open PySem L2 PyProof.Rows
def pI (v : List Int) : PyData := .tuple (v.map .int)
theorem py_ints : ∀ v : List Int, pyAll (v.map D.int) = some (v.map PyData.int)
  | [] => rfl
  | a :: v => by
    show (match pyOf (.int a), pyAll (v.map D.int) with
      | some x, some xs => some (x :: xs)
      | _, _ => none) = _
    rw [py_ints v]; rfl
theorem py_tup (v : List Int) : pyOf (.tup (v.map D.int)) = some (pI v) := by
  show (pyAll (v.map D.int)).map PyData.tuple = _
  rw [py_ints]; rfl
theorem py_tups : ∀ F : List (List Int), pyAll (F.map fun v => D.tup (v.map D.int)) = some (F.map pI)
  | [] => rfl
  | a :: v => by
    show (match pyOf (.tup (a.map D.int)), pyAll (v.map fun v => D.tup (v.map D.int)) with
      | some x, some xs => some (x :: xs)
      | _, _ => none) = _
    rw [py_tups v, py_tup]; rfl
theorem lay_ints : ∀ v : List Int, PyData.canLayAll0 (v.map PyData.int) = true
  | [] => by simp [PyData.canLayAll0]
  | a :: v => by simp [PyData.canLayAll0, PyData.canLay0]; exact lay_ints v
theorem dep_ints : ∀ v : List Int, PyData.depthAll (v.map PyData.int) ≤ 1
  | [] => by simp [PyData.depthAll]
  | a :: v => by simp [PyData.depthAll, PyData.depth]; exact dep_ints v
theorem lay_tups : ∀ F : List (List Int), PyData.canLayAll0 (F.map pI) = true
  | [] => by simp [PyData.canLayAll0]
  | a :: v => by simp [PyData.canLayAll0, PyData.canLay0, pI, lay_ints]; exact lay_tups v
theorem dep_tups : ∀ F : List (List Int), PyData.depthAll (F.map pI) ≤ 3
  | [] => by simp [PyData.depthAll]
  | a :: v => by
    have := dep_ints a
    simp [PyData.depthAll, PyData.depth, pI]
    have h2 := dep_tups v
    omega
theorem sh_tup (v : List Int) : SeqAt.shaped (pI v) = true := by
  have := dep_ints v
  simp [SeqAt.shaped, pI, PyData.canLay0, PyData.depth, lay_ints]
  omega
theorem sh_tups (F : List (List Int)) : SeqAt.shaped (.list (F.map pI)) = true := by
  have := dep_tups F
  simp [SeqAt.shaped, PyData.canLay0, PyData.depth, lay_tups]
  omega
theorem eqv_ints : ∀ v w : List Int, PyData.eqvAll (v.map PyData.int) (w.map PyData.int) = decide (v = w)
  | [], [] => by simp [PyData.eqvAll]
  | [], _ :: _ => by simp [PyData.eqvAll]
  | _ :: _, [] => by simp [PyData.eqvAll]
  | a :: v, b :: w => by
    simp only [List.map_cons, PyData.eqvAll, PyData.eqv, eqv_ints v w, List.cons.injEq]
    by_cases h : a = b <;> simp [h]
theorem eqv_tup (v w : List Int) : PyData.eqv (pI v) (pI w) = decide (v = w) := by
  unfold pI; rw [PyData.eqv, eqv_ints]
theorem v_eqT (v w : List Int) : oEq (.tup (v.map .int)) (.tup (w.map .int)) = some (.val (.bl (decide (v = w)))) := by
  unfold oEq eqD
  rw [py_tup, py_tup]
  simp [sh_tup, eqv_tup]
theorem v_neT (v w : List Int) : oNe (.tup (v.map .int)) (.tup (w.map .int)) = some (.val (.bl (!decide (v = w)))) := by
  unfold oNe eqD
  rw [py_tup, py_tup]
  simp [sh_tup, eqv_tup]
theorem v_inT (v : List Int) (F : List (List Int)) : inD (.tup (v.map .int)) (.lst (F.map fun v => .tup (v.map .int))) = some (decide (v ∈ F)) := by
  unfold inD
  rw [py_tup, show pyOf (.lst (F.map fun v => D.tup (v.map D.int))) = some (.list (F.map pI)) by
    show (pyAll _).map PyData.list = _
    rw [py_tups]; rfl]
  simp only [sh_tup, sh_tups, Bool.and_self, if_true]
  congr 1
  rw [List.any_map]
  induction F with
  | nil => simp
  | cons w F ih =>
    rw [List.any_cons, ih]
    simp only [Function.comp, eqv_tup, List.mem_cons]
    by_cases h : v = w
    · subst h; simp
    · have : ¬ w = v := fun e => h e.symm
      simp [h, this]
theorem v_notInT (v : List Int) (F : List (List Int)) : oNotIn (.tup (v.map .int)) (.lst (F.map fun v => .tup (v.map .int))) = some (.val (.bl (!decide (v ∈ F)))) := by
  have h1 : oNotInF (.tup (v.map .int)) (.lst (F.map fun v => .tup (v.map .int))) = none := rfl
  have h2 : oNotInL (.tup (v.map .int)) (.lst (F.map fun v => .tup (v.map .int))) = some (.val (.bl (!decide (v ∈ F)))) := by
    unfold oNotInL
    rw [v_inT]; rfl
  unfold oNotIn orF
  rw [h1]
  simp only
  rw [h2]
end CI
end
section
set_option maxRecDepth 100000
/-! CIEv2: loops and comprehensions, over lists of any kind of thing. -/
namespace CI
open PySem L2 PyProof.Rows
section
variable {S β : Type} {t : Tg} {body : Mn Fl} {ρ ρ1 : En} {i j : Nat}
theorem forL_cnx {d : D} {ds : List D} {ρ ρ1 ρ2 : En} (h1 : t d ρ = .ok () ρ1) (h2 : body ρ1 = .ok .nx ρ2 ∨ body ρ1 = .ok .cnt ρ2) : forL t body (d :: ds) ρ = forL t body ds ρ2 := by
  show bnd (t d) _ ρ = _
  rcases h2 with h2 | h2
  · rw [ev_bnd, h1, bk1, h2]
  · rw [ev_bnd, h1, bk1, h2]
theorem forL_cret {d : D} {ds : List D} {ρ ρ1 ρ2 : En} {r : Rv} (h1 : t d ρ = .ok () ρ1) (h2 : body ρ1 = .ok (.ret r) ρ2) : forL t body (d :: ds) ρ = .ok (.ret r) ρ2 := by
  show bnd (t d) _ ρ = _
  rw [ev_bnd, h1, bk1, h2]
theorem forL_cbrk {d : D} {ds : List D} {ρ ρ1 ρ2 : En} (h1 : t d ρ = .ok () ρ1) (h2 : body ρ1 = .ok .brk ρ2) : forL t body (d :: ds) ρ = .ok .nx ρ2 := by
  show bnd (t d) _ ρ = _
  rw [ev_bnd, h1, bk1, h2]
theorem forL_cexc {d : D} {ds : List D} {ρ ρ1 ρ2 : En} {x : Exc} (h1 : t d ρ = .ok () ρ1) (h2 : body ρ1 = .exc x ρ2) : forL t body (d :: ds) ρ = .exc x ρ2 := by
  show bnd (t d) _ ρ = _
  rw [ev_bnd, h1, bk1, h2]
/-- a loop as a fold over what its slots hold -/
theorem forL_st (st : S → En) (inj : β → D) (f : S → β → S) (P : S → Prop) : ∀ (xs : List β) (a : S), P a → (∀ x ∈ xs, ∀ a, P a → (∃ ρ1, t (inj x) (st a) = .ok () ρ1 ∧ (body ρ1 = .ok .nx (st (f a x)) ∨ body ρ1 = .ok .cnt (st (f a x)))) ∧ P (f a x)) →
    forL t body (xs.map inj) (st a) = .ok .nx (st (xs.foldl f a)) ∧ P (xs.foldl f a)
  | [], a, p, _ => ⟨rfl, p⟩
  | x :: xs, a, p, h => by
    obtain ⟨⟨ρ1, h1, h2⟩, h3⟩ := h x List.mem_cons_self a p
    rw [List.map_cons, forL_cnx h1 h2]
    exact forL_st st inj f P xs (f a x) h3 fun y hy => h y (List.mem_cons_of_mem _ hy)
/-- a loop that looks at each and leaves at the first bad one -/
theorem forL_chk (st : En → Prop) (inj : β → D) (q : β → Bool) (r : Rv) : ∀ (xs : List β) (ρ : En), st ρ → (∀ x ∈ xs, ∀ ρ, st ρ → ∃ ρ1, t (inj x) ρ = .ok () ρ1 ∧ (q x = true → ∃ ρ2, (body ρ1 = .ok .nx ρ2 ∨ body ρ1 = .ok .cnt ρ2) ∧ st ρ2) ∧ (q x = false → ∃ ρ2, body ρ1 = .ok (.ret r) ρ2)) →
    (xs.all q = true → ∃ ρ', forL t body (xs.map inj) ρ = .ok .nx ρ' ∧ st ρ') ∧ (xs.all q = false → ∃ ρ', forL t body (xs.map inj) ρ = .ok (.ret r) ρ')
  | [], ρ, p, _ => ⟨fun _ => ⟨ρ, rfl, p⟩, fun h => by cases h⟩
  | x :: xs, ρ, p, h => by
    obtain ⟨ρ1, h1, h2, h3⟩ := h x List.mem_cons_self ρ p
    rw [List.map_cons, List.all_cons]
    cases hq : q x with
    | true =>
      obtain ⟨ρ2, e, p2⟩ := h2 hq
      rw [forL_cnx h1 e, Bool.true_and]
      exact forL_chk st inj q r xs ρ2 p2 fun y hy => h y (List.mem_cons_of_mem _ hy)
    | false =>
      obtain ⟨ρ2, e⟩ := h3 hq
      rw [forL_cret h1 e, Bool.false_and]
      exact ⟨fun h => (by cases h), fun _ => ⟨ρ2, rfl⟩⟩
theorem set_at {s : Sl} (h : ρ[i]? = some s) : ρ.set i s = ρ := by
  apply List.ext_getElem?
  intro k
  by_cases hk : i = k
  · subst hk
    have hl : i < ρ.length := by
      rcases Nat.lt_or_ge i ρ.length with w | w
      · exact w
      · rw [List.getElem?_eq_none w] at h; cases h
    rw [List.getElem?_set_self hl, h]
  · rw [List.getElem?_set_ne hk]
/-- the turns of a comprehension over one name -/
theorem lcL_F {cond : Mn Bool} {elt : Mn Rv} {xs : List β} (inj : β → D) (c : β → Bool) (g : β → D)
    (h2 : ∀ x ∈ xs, cond (ρ1.set i (.val (inj x))) = .ok (c x) (ρ1.set i (.val (inj x)))) (h3 : ∀ x ∈ xs, c x = true → cV elt (ρ1.set i (.val (inj x))) = .ok (g x) (ρ1.set i (.val (inj x)))) :
    ∀ (ys : List β) (acc : List D), (∀ x ∈ ys, x ∈ xs) → acc.length + ys.length ≤ sizeLine → lcL (.nm i) cond elt [i] (ys.map inj) acc (ρ1.set i .emp) = some (acc ++ (ys.filter c).map g, ρ1.set i .emp) := by
  intro ys
  induction ys with
  | nil => intro acc _ _; simp [lcL]
  | cons y ys ih =>
    intro acc hm hz
    have hy := hm y List.mem_cons_self
    have hm' : ∀ x ∈ ys, x ∈ xs := fun x hx => hm x (List.mem_cons_of_mem _ hx)
    have hz : acc.length + (ys.length + 1) ≤ sizeLine := hz
    rw [List.map_cons]
    unfold lcL
    have e1 : setTn (.nm i) (inj y) (ρ1.set i .emp) = some (ρ1.set i (.val (inj y))) := by
      show some ((ρ1.set i .emp).set i (.val (inj y))) = _
      rw [List.set_set]
    have e2 : wipeE (ρ1.set i (.val (inj y))) [i] = ρ1.set i .emp := by
      show ((ρ1.set i (.val (inj y))).set i .emp) = _
      rw [List.set_set]
    rw [e1, Option.bind_some]
    unfold lcTurn
    rw [h2 y hy]
    cases hc : c y with
    | false =>
      simp only [Option.bind_some]
      rw [e2, ih acc hm' (by omega), List.filter_cons, hc]
      rfl
    | true =>
      simp only [h3 y hy hc, Option.bind_some]
      rw [if_pos (by omega), e2, ih _ hm' (by simp; omega), List.filter_cons, hc]
      simp
/-- [elt for x in it if cond] -/
theorem ev_lcF {it : Mn (List D)} {cond : Mn Bool} {elt : Mn Rv} {xs : List β} {s : Sl} (inj : β → D) (c : β → Bool) (g : β → D) (h1 : it ρ = .ok (xs.map inj) ρ1) (hs : ρ1[i]? = some s) (hok : okOwn ρ1 [i] = true) (hz : xs.length ≤ sizeLine)
    (h2 : ∀ x ∈ xs, cond (ρ1.set i (.val (inj x))) = .ok (c x) (ρ1.set i (.val (inj x)))) (h3 : ∀ x ∈ xs, c x = true → cV elt (ρ1.set i (.val (inj x))) = .ok (g x) (ρ1.set i (.val (inj x)))) :
    cLc it (.nm i) cond elt [i] ρ = .ok (.own (.lst ((xs.filter c).map g))) ρ1 := by
  have key := lcL_F (i := i) (ρ1 := ρ1) inj c g h2 h3 xs [] (fun _ h => h) (by simpa using hz)
  have e := ev_lc (t := .nm i) (cond := cond) (elt := elt) (vs := [i]) h1 (by rw [hok]; simp [Tn.ix]) key
  rw [e]
  have : restE ρ1 (ρ1.set i .emp) [i] = ρ1 := by
    unfold restE restE
    rw [hs]
    show (ρ1.set i .emp).set i s = ρ1
    rw [List.set_set, set_at hs]
  simp [this]
/-- [elt for x in it] -/
theorem ev_lcN {it : Mn (List D)} {elt : Mn Rv} {xs : List β} {s : Sl} (inj : β → D) (g : β → D) (h1 : it ρ = .ok (xs.map inj) ρ1) (hs : ρ1[i]? = some s) (hok : okOwn ρ1 [i] = true) (hz : xs.length ≤ sizeLine)
    (h3 : ∀ x ∈ xs, cV elt (ρ1.set i (.val (inj x))) = .ok (g x) (ρ1.set i (.val (inj x)))) :
    cLc it (.nm i) cYes elt [i] ρ = .ok (.own (.lst (xs.map g))) ρ1 := by
  have := ev_lcF (cond := cYes) (elt := elt) inj (fun _ => true) g h1 hs hok hz (fun _ _ => rfl) fun x hx _ => h3 x hx
  rw [this, List.filter_eq_self.mpr (fun _ _ => rfl)]
/-- [elt for a, b in it] -/
theorem ev_lcP {it : Mn (List D)} {elt : Mn Rv} {xs : List β} {s s' : Sl} (a b : β → D) (g : β → D) (hij : i ≠ j) (h1 : it ρ = .ok (xs.map fun x => .tup [a x, b x]) ρ1) (hs : ρ1[i]? = some s) (hs' : ρ1[j]? = some s') (hok : okOwn ρ1 [i, j] = true) (hz : xs.length ≤ sizeLine)
    (h3 : ∀ x ∈ xs, cV elt ((ρ1.set i (.val (a x))).set j (.val (b x))) = .ok (g x) ((ρ1.set i (.val (a x))).set j (.val (b x)))) :
    cLc it (.tup [.nm i, .nm j]) cYes elt [i, j] ρ = .ok (.own (.lst (xs.map g))) ρ1 := by
  have c3 : ∀ (u v w : Sl), ((ρ1.set i u).set j v).set i w = (ρ1.set i w).set j v := fun u v w => by
    rw [List.set_comm _ _ (fun h => hij h.symm), List.set_set]
  have c4 : ∀ (u v w : Sl), ((ρ1.set i u).set j v).set j w = (ρ1.set i u).set j w := fun u v w => by rw [List.set_set]
  have c5 : ∀ (u v w : Sl), ((ρ1.set j u).set i v).set j w = (ρ1.set i v).set j w := fun u v w => by
    rw [List.set_comm (l := ρ1) _ _ (fun h => hij h.symm), List.set_set]
  have key : ∀ (ys : List β) (acc : List D), (∀ x ∈ ys, x ∈ xs) → acc.length + ys.length ≤ sizeLine → lcL (.tup [.nm i, .nm j]) cYes elt [i, j] (ys.map fun x => .tup [a x, b x]) acc ((ρ1.set j .emp).set i .emp) = some (acc ++ ys.map g, (ρ1.set j .emp).set i .emp) := by
    intro ys
    induction ys with
    | nil => intro acc _ _; simp [lcL]
    | cons y ys ih =>
      intro acc hm hz
      have hy := hm y List.mem_cons_self
      have hm' : ∀ x ∈ ys, x ∈ xs := fun x hx => hm x (List.mem_cons_of_mem _ hx)
      have hz : acc.length + (ys.length + 1) ≤ sizeLine := hz
      rw [List.map_cons]
      unfold lcL
      have e1 : setTn (.tup [.nm i, .nm j]) (.tup [a y, b y]) ((ρ1.set j .emp).set i .emp) = some ((ρ1.set i (.val (a y))).set j (.val (b y))) := by
        show some ((((ρ1.set j .emp).set i .emp).set i (.val (a y))).set j (.val (b y))) = _
        rw [List.set_set, c5]
      have e2 : wipeE ((ρ1.set i (.val (a y))).set j (.val (b y))) [i, j] = (ρ1.set j .emp).set i .emp := by
        show ((((ρ1.set i (.val (a y))).set j (.val (b y))).set j .emp).set i .emp) = _
        rw [List.set_set, c3, List.set_comm _ _ hij]
      rw [e1, Option.bind_some]
      unfold lcTurn
      simp only [ev_yes, ev_ret, h3 y hy, Option.bind_some]
      rw [if_pos (by omega), e2, ih _ hm' (by simp; omega)]
      simp
  have e := ev_lc (t := .tup [.nm i, .nm j]) (cond := cYes) (elt := elt) (vs := [i, j]) h1 (by rw [hok]; simp [Tn.ix, Tn.ixs]) (key xs [] (fun _ h => h) (by simpa using hz))
  rw [e]
  have : restE ρ1 ((ρ1.set j .emp).set i .emp) [i, j] = ρ1 := by
    unfold restE restE restE
    rw [hs, hs']
    show (((ρ1.set j .emp).set i .emp).set j s').set i s = ρ1
    rw [c5, c3]
    rw [set_at hs, set_at hs']
  simp [this]
/-- [elt for a in it if cond for b in it1 if cond1] -/
theorem ev_lc2F {γ : Type} {it it1 : Mn (List D)} {cond cond1 : Mn Bool} {elt : Mn Rv} {xs : List β} {s s' : Sl} (inj : β → D) (c : β → Bool) (ys : β → List γ) (inj1 : γ → D) (c1 : β → γ → Bool) (g : β → γ → D) (hij : i ≠ j)
    (h1 : it ρ = .ok (xs.map inj) ρ1) (hs : ρ1[i]? = some s) (hs' : ρ1[j]? = some s') (hok : okOwn ρ1 [i, j] = true) (hz : (xs.flatMap ys).length ≤ sizeLine)
    (h2 : ∀ x ∈ xs, cond ((ρ1.set i (.val (inj x))).set j .emp) = .ok (c x) ((ρ1.set i (.val (inj x))).set j .emp))
    (h3 : ∀ x ∈ xs, c x = true → it1 ((ρ1.set i (.val (inj x))).set j .emp) = .ok ((ys x).map inj1) ((ρ1.set i (.val (inj x))).set j .emp))
    (h4 : ∀ x ∈ xs, c x = true → ∀ y ∈ ys x, cond1 ((ρ1.set i (.val (inj x))).set j (.val (inj1 y))) = .ok (c1 x y) ((ρ1.set i (.val (inj x))).set j (.val (inj1 y))))
    (h5 : ∀ x ∈ xs, c x = true → ∀ y ∈ ys x, c1 x y = true → cV elt ((ρ1.set i (.val (inj x))).set j (.val (inj1 y))) = .ok (g x y) ((ρ1.set i (.val (inj x))).set j (.val (inj1 y)))) :
    cLc2 it (.nm i) cond it1 (.nm j) cond1 elt [i, j] [j] ρ = .ok (.own (.lst ((xs.filter c).flatMap fun x => ((ys x).filter (c1 x)).map (g x)))) ρ1 := by
  have c3 : ∀ (u v w : Sl), ((ρ1.set i u).set j v).set i w = (ρ1.set i w).set j v := fun u v w => by
    rw [List.set_comm _ _ (fun h => hij h.symm), List.set_set]
  have c4 : ∀ (u v w : Sl), ((ρ1.set i u).set j v).set j w = (ρ1.set i u).set j w := fun u v w => by rw [List.set_set]
  have key : ∀ (zs : List β) (acc : List D), (∀ x ∈ zs, x ∈ xs) → acc.length + (zs.flatMap ys).length ≤ sizeLine → lcL2 (.nm i) cond it1 (.nm j) cond1 elt [i, j] [j] (zs.map inj) acc ((ρ1.set i .emp).set j .emp) = some (acc ++ (zs.filter c).flatMap fun x => ((ys x).filter (c1 x)).map (g x), (ρ1.set i .emp).set j .emp) := by
    intro zs
    induction zs with
    | nil => intro acc _ _; simp [lcL2]
    | cons y zs ih =>
      intro acc hm hz
      have hy := hm y List.mem_cons_self
      have hm' : ∀ x ∈ zs, x ∈ xs := fun x hx => hm x (List.mem_cons_of_mem _ hx)
      rw [List.flatMap_cons, List.length_append] at hz
      rw [List.map_cons]
      unfold lcL2
      have e1 : setTn (.nm i) (inj y) ((ρ1.set i .emp).set j .emp) = some ((ρ1.set i (.val (inj y))).set j .emp) := by
        show some (((ρ1.set i .emp).set j .emp).set i (.val (inj y))) = _
        rw [c3]
      have e2 : wipeE ((ρ1.set i (.val (inj y))).set j .emp) [i, j] = (ρ1.set i .emp).set j .emp := by
        show (((ρ1.set i (.val (inj y))).set j .emp).set j .emp).set i .emp = _
        rw [c4, c3]
      have e3 : wipeE ((ρ1.set i (.val (inj y))).set j .emp) [j] = (ρ1.set i (.val (inj y))).set j .emp := by
        show (((ρ1.set i (.val (inj y))).set j .emp).set j .emp) = _
        rw [c4]
      rw [e1, Option.bind_some, h2 y hy]
      cases hc : c y with
      | false =>
        simp only
        rw [e2, ih acc hm' (by omega), List.filter_cons, hc]
        rfl
      | true =>
        simp only [h3 y hy hc]
        have inner := lcL_F (i := j) (ρ1 := ρ1.set i (.val (inj y))) inj1 (c1 y) (g y) (h4 y hy hc) (h5 y hy hc) (ys y) acc (fun _ h => h) (by omega)
        rw [e3, inner, Option.bind_some]
        simp only
        have hf : ((ys y).filter (c1 y)).length ≤ (ys y).length := List.length_filter_le _ _
        rw [e2, ih _ hm' (by rw [List.length_append, List.length_map]; omega), List.filter_cons, hc]
        simp
  have hok' : (okOwn ρ1 [i, j] && (Tn.nm i).ix.all (fun k => [i, j].contains k) && (Tn.nm j).ix.all (fun k => [j].contains k) && [j].all (fun k => [i, j].contains k)) = true := by rw [hok]; simp [Tn.ix]
  unfold cLc2
  rw [ev_bnd, h1, bk1]
  have ew : wipeE ρ1 [i, j] = (ρ1.set i .emp).set j .emp := by
    show (ρ1.set j .emp).set i .emp = _
    rw [List.set_comm _ _ (fun h => hij h.symm)]
  have k0 := key xs [] (fun _ h => h) (by simpa using hz)
  rw [if_pos hok', ew, k0]
  have : restE ρ1 ((ρ1.set i .emp).set j .emp) [i, j] = ρ1 := by
    unfold restE restE restE
    rw [hs, hs']
    show ((((ρ1.set i .emp).set j .emp).set j s').set i s) = ρ1
    rw [c4, c3, set_at hs, set_at hs']
  simp [this]
/-! locks, sources, calls as rules -/
@[simp] theorem ev_lkV {α : Type} {m : Mn α} {d : D} (h : ρ[i]? = some (.val d)) : cLock i m ρ = m ρ := by unfold cLock; rw [h]
@[simp] theorem ev_lkB {α : Type} {m : Mn α} {d : D} (h : ρ[i]? = some (.bor d)) : cLock i m ρ = m ρ := by unfold cLock; rw [h]
@[simp] theorem ev_lkE {α : Type} {m : Mn α} (h : ρ[i]? = some .emp) : cLock i m ρ = m ρ := by unfold cLock; rw [h]
@[simp] theorem ev_lkO {α : Type} {m : Mn α} {xs : List D} (h : ρ[i]? = some (.own (.lst xs))) : cLock i m ρ = (m (ρ.set i (.bor (.lst xs)))).mapE (unbor i) := by
  unfold cLock; rw [h]; simp only [isObj]; rfl
theorem ev_lkX {α : Type} {m : Mn α} {c : Str} {fs : List (Str × D)} (h : ρ[i]? = some (.own (.obj c fs))) : cLock i m ρ = m ρ := by
  unfold cLock; rw [h]; simp only [isObj]; rfl
@[simp] theorem me1 {α : Type} {f : En → En} {a : α} : Out.mapE f (.ok a ρ) = .ok a (f ρ) := by exact Eq.trans rfl rfl
@[simp] theorem me2 {α : Type} {f : En → En} {x : Exc} : Out.mapE f (.exc x ρ : Out α) = .exc x (f ρ) := by exact Eq.trans rfl rfl
@[simp] theorem ub1 {d : D} (h : ρ[i]? = some (.bor d)) : unbor i ρ = ρ.set i (.own d) := by unfold unbor; rw [h]
@[simp] theorem ub2 {d : D} (h : ρ[i]? = some (.own d)) : unbor i ρ = ρ := by unfold unbor; rw [h]
@[simp] theorem ub3 {d : D} (h : ρ[i]? = some (.val d)) : unbor i ρ = ρ := by unfold unbor; rw [h]
@[simp] theorem ub4 (h : ρ[i]? = some .emp) : unbor i ρ = ρ := by unfold unbor; rw [h]
@[simp] theorem ev_enumS (a : Mn D) : (ciEnum a) ρ = (bnd (cCons a cNil) fun ds => match ds with
  | [x] => ofO (enumO x)
  | _ => stk) ρ := by exact Eq.trans rfl rfl
@[simp] theorem ev_enumO (xs : List D) : enumO (.lst xs) = some (enumD 0 xs) := by exact Eq.trans rfl rfl
@[simp] theorem ev_zipS (a b : Mn D) : (ciZip a b) ρ = (bnd (cCons a (cCons b cNil)) fun ds => match ds with
  | [x, y] => ofO (zipO x y)
  | _ => stk) ρ := by exact Eq.trans rfl rfl
@[simp] theorem ev_zipO1 (xs ys : List D) : zipO (.lst xs) (.lst ys) = some (zipD xs ys) := by exact Eq.trans rfl rfl
@[simp] theorem ev_zipO2 (xs ys : List D) : zipO (.tup xs) (.lst ys) = some (zipD xs ys) := by exact Eq.trans rfl rfl
@[simp] theorem ev_zipO3 (xs ys : List D) : zipO (.lst xs) (.tup ys) = some (zipD xs ys) := by exact Eq.trans rfl rfl
@[simp] theorem ev_zipO4 (xs ys : List D) : zipO (.tup xs) (.tup ys) = some (zipD xs ys) := by exact Eq.trans rfl rfl
@[simp] theorem ev_qE (c : Mn Rv) : (qE c) ρ = (bnd c fun r => ofO (unlent r)) ρ := by exact Eq.trans rfl rfl
@[simp] theorem ev_ul1 (d : D) : unlent (.val d) = some d := by exact Eq.trans rfl rfl
@[simp] theorem ev_ul2 (d : D) : unlent (.own d) = some d := by exact Eq.trans rfl rfl
@[simp] theorem ev_seq4 (xs : List D) : seqR (.own (.tup xs)) = some xs := by exact Eq.trans rfl rfl
@[simp] theorem ev_rse (x : Str) : cRse x ρ = .exc (x, []) ρ := by exact Eq.trans rfl rfl
@[simp] theorem ev_m1 (f : D → D → Option Rv) (co ce : Mn Rv) : (cM1 f co ce) ρ = (bnd co fun a => if isStr a.d = true then bnd ce fun b => ofO (f a.d b.d) else stk) ρ := by exact Eq.trans rfl rfl
@[simp] theorem ev_oI (i : Int) : oI (.int i) = some (some i) := by exact Eq.trans rfl rfl
@[simp] theorem ev_isStr (x : Str) : isStr (.str x) = true := by exact Eq.trans rfl rfl
theorem ev_tryX {body suite : Mn Fl} {su : Str → Option Bool} {ρ' : En} {x : Exc} (hb : body ρ = .exc x ρ') (hs : su x.1 = some true) : cTry body su i suite ρ = sufEnd i (suite (ρ'.set i (.exn x))) := by
  unfold cTry; rw [hb]; simp only [hs]
theorem ev_tryN {body suite : Mn Fl} {su : Str → Option Bool} {ρ' : En} {x : Exc} (hb : body ρ = .exc x ρ') (hs : su x.1 = some false) : cTry body su i suite ρ = .exc x ρ' := by
  unfold cTry; rw [hb]; simp only [hs]
theorem ev_tryO {body suite : Mn Fl} {su : Str → Option Bool} {ρ' : En} {a : Fl} (hb : body ρ = .ok a ρ') : cTry body su i suite ρ = .ok a ρ' := by
  unfold cTry; rw [hb]
/-! comparing with the empty list -/
theorem v_neNil {xs : List D} {ds : List PyData} (h : pyAll xs = some ds) (h2 : SeqAt.shaped (.list ds) = true) : oNe (.lst xs) (.lst []) = some (.val (.bl (!xs.isEmpty))) := by
  have e1 : pyOf (.lst xs) = some (.list ds) := by show (pyAll xs).map PyData.list = _; rw [h]; rfl
  have e2 : pyOf (.lst []) = some (.list []) := rfl
  have e3 : SeqAt.shaped (.list []) = true := by decide
  unfold oNe eqD
  rw [e1, e2]
  simp only [h2, e3, Bool.and_self, if_true, Option.bind_some, v_vB]
  cases xs with
  | nil => cases h; simp [PyData.eqv, PyData.eqvAll]
  | cons a xs =>
    cases ds with
    | nil =>
      unfold pyAll at h
      split at h <;> cases h
    | cons d ds => simp [PyData.eqv, PyData.eqvAll]
theorem v_eqNil {xs : List D} {ds : List PyData} (h : pyAll xs = some ds) (h2 : SeqAt.shaped (.list ds) = true) : oEq (.lst xs) (.lst []) = some (.val (.bl xs.isEmpty)) := by
  have := v_neNil h h2
  unfold oNe at this
  unfold oEq
  cases e : eqD (.lst xs) (.lst []) with
  | none => rw [e] at this; cases this
  | some b =>
    rw [e] at this
    simp only [Option.bind_some, v_vB, Option.some.injEq, Rv.val.injEq, D.bl.injEq] at this ⊢
    rw [← Bool.not_not b, this, Bool.not_not]
theorem v_neNilI (v : List Int) : oNe (.lst (v.map D.int)) (.lst []) = some (.val (.bl (!v.isEmpty))) := by
  have h2 : SeqAt.shaped (.list (v.map PyData.int)) = true := by
    have := dep_ints v
    simp [SeqAt.shaped, PyData.canLay0, PyData.depth, lay_ints]
    omega
  have := v_neNil (py_ints v) h2
  simpa using this
end
end CI
end
section
/-! LA: vectors modulo p as lists, what rows reach, elimination. No program here. -/
namespace LA
/-- congruent modulo p -/
def C (p a b : Int) : Prop := ∃ k, a = b + p * k
theorem C.emod {p a b : Int} (h : C p a b) : a % p = b % p := by
  obtain ⟨k, rfl⟩ := h
  exact Int.add_mul_emod_self_left b p k
theorem C.mod (p a : Int) : C p (a % p) a := ⟨-(a / p), by have := Int.emod_add_mul_ediv a p; grind⟩
theorem C.refl (p a : Int) : C p a a := ⟨0, by grind⟩
theorem C.symm {p a b : Int} (h : C p a b) : C p b a := by obtain ⟨k, rfl⟩ := h; exact ⟨-k, by grind⟩
theorem C.trans {p a b c : Int} (h : C p a b) (k : C p b c) : C p a c := by obtain ⟨x, rfl⟩ := h; obtain ⟨y, rfl⟩ := k; exact ⟨x + y, by grind⟩
theorem C.add {p a b c d : Int} (h : C p a b) (k : C p c d) : C p (a + c) (b + d) := by obtain ⟨x, rfl⟩ := h; obtain ⟨y, rfl⟩ := k; exact ⟨x + y, by grind⟩
theorem C.mul {p a b c d : Int} (h : C p a b) (k : C p c d) : C p (a * c) (b * d) := by obtain ⟨x, rfl⟩ := h; obtain ⟨y, rfl⟩ := k; exact ⟨b * y + x * d + p * x * y, by grind⟩
theorem C.of_eq {p a b : Int} (h : a = b) : C p a b := h ▸ C.refl p a
theorem C.of_mod {p a b : Int} (h : a % p = b % p) : C p a b := (C.mod p a).symm.trans ((C.of_eq h).trans (C.mod p b))
theorem C.small {p a b : Int} (h : C p a b) (ha : 0 ≤ a) (ha' : a < p) (hb : 0 ≤ b) (hb' : b < p) : a = b := by
  have := h.emod
  rwa [Int.emod_eq_of_lt ha ha', Int.emod_eq_of_lt hb hb'] at this
/-- v + t r -/
def ax (p : Int) (v : List Int) (t : Int) (r : List Int) : List Int := List.zipWith (fun a b => (a + t * b) % p) v r
structure Ok (p : Int) (L : Nat) (v : List Int) : Prop where
  len : v.length = L
  bd : ∀ i, i < L → 0 ≤ v.getD i 0 ∧ v.getD i 0 < p
def zs (L : Nat) : List Int := List.replicate L 0
theorem ext {L : Nat} {v w : List Int} (hv : v.length = L) (hw : w.length = L) (h : ∀ i, i < L → v.getD i 0 = w.getD i 0) : v = w := by
  apply List.ext_getElem?
  intro i
  by_cases hi : i < L
  · have := h i hi
    rw [List.getD_eq_getElem?_getD, List.getD_eq_getElem?_getD, List.getElem?_eq_getElem (by omega), List.getElem?_eq_getElem (by omega)] at this
    rw [List.getElem?_eq_getElem (by omega), List.getElem?_eq_getElem (by omega)]
    simpa using this
  · rw [List.getElem?_eq_none (by omega), List.getElem?_eq_none (by omega)]
section
variable {p : Int} {L : Nat} {v w r q : List Int} {t s : Int} {i : Nat}
theorem ax_len (hv : v.length = L) (hr : r.length = L) : (ax p v t r).length = L := by unfold ax; rw [List.length_zipWith, hv, hr]; simp
theorem ax_get (hv : v.length = L) (hr : r.length = L) (hi : i < L) : (ax p v t r).getD i 0 = (v.getD i 0 + t * r.getD i 0) % p := by
  unfold ax
  rw [List.getD_eq_getElem?_getD, List.getElem?_zipWith, List.getD_eq_getElem?_getD, List.getD_eq_getElem?_getD, List.getElem?_eq_getElem (by omega), List.getElem?_eq_getElem (by omega)]
  simp
theorem ax_C (hv : v.length = L) (hr : r.length = L) (hi : i < L) : C p ((ax p v t r).getD i 0) (v.getD i 0 + t * r.getD i 0) := by rw [ax_get hv hr hi]; exact C.mod p _
theorem ax_ok (hp : 0 < p) (hv : v.length = L) (hr : r.length = L) : Ok p L (ax p v t r) := ⟨ax_len hv hr, fun i hi => by
  rw [ax_get hv hr hi]
  exact ⟨Int.emod_nonneg _ (by omega), Int.emod_lt_of_pos _ hp⟩⟩
theorem zs_get : (zs L).getD i 0 = 0 := by
  unfold zs
  rw [List.getD_eq_getElem?_getD, List.getElem?_replicate]
  split <;> rfl
theorem zs_ok (hp : 0 < p) : Ok p L (zs L) := ⟨by simp [zs], fun i _ => by rw [zs_get]; exact ⟨Int.le_refl _, hp⟩⟩
/-- two vectors that agree modulo p -/
theorem eq_of_C (hv : Ok p L v) (hw : Ok p L w) (h : ∀ i, i < L → C p (v.getD i 0) (w.getD i 0)) : v = w :=
  ext hv.len hw.len fun i hi => (h i hi).small (hv.bd i hi).1 (hv.bd i hi).2 (hw.bd i hi).1 (hw.bd i hi).2
end
/-- reached from 0 by steps over R -/
inductive Sp (p : Int) (L : Nat) (R : List (List Int)) : List Int → Prop where
  | zero : Sp p L R (zs L)
  | step {v r : List Int} {t : Int} (h : Sp p L R v) (hr : r ∈ R) : Sp p L R (ax p v t r)
section
variable {p : Int} {L : Nat} {R A B : List (List Int)} {v w r q : List Int} {t s : Int}
abbrev Oks (p : Int) (L : Nat) (R : List (List Int)) : Prop := ∀ r ∈ R, Ok p L r
theorem Sp.ok (hp : 0 < p) (hR : Oks p L R) (h : Sp p L R v) : Ok p L v := by
  induction h with
  | zero => exact zs_ok hp
  | step h hr ih => exact ax_ok hp ih.len (hR _ hr).len
theorem ax_zero (hp : 0 < p) (hv : Ok p L v) : ax p v t (zs L) = v := eq_of_C (ax_ok hp hv.len (by simp [zs])) hv fun i hi => by
  refine (ax_C hv.len (by simp [zs]) hi).trans (C.of_eq ?_)
  rw [zs_get]; grind
theorem ax_ax (hp : 0 < p) (hv : Ok p L v) (hr : Ok p L r) (hq : Ok p L q) : ax p v t (ax p r s q) = ax p (ax p v t r) (t * s) q :=
  eq_of_C (ax_ok hp hv.len (ax_len hr.len hq.len)) (ax_ok hp (ax_len hv.len hr.len) hq.len) fun i hi => by
    refine (ax_C hv.len (ax_len hr.len hq.len) hi).trans (C.trans ?_ (ax_C (ax_len hv.len hr.len) hq.len hi).symm)
    refine (C.add (C.refl _ _) (C.mul (C.refl p t) (ax_C (t := s) hr.len hq.len hi))).trans (C.trans ?_ (C.add (ax_C (t := t) hv.len hr.len hi) (C.refl _ _)).symm)
    exact C.of_eq (by grind)
/-- steps over what is reached -/
theorem Sp.more (hp : 0 < p) (hR : Oks p L R) (hv : Sp p L R v) (hr : Sp p L R r) : Sp p L R (ax p v t r) := by
  induction hr generalizing v t with
  | zero => rw [ax_zero hp (hv.ok hp hR)]; exact hv
  | @step r' q s h hq ih =>
    rw [ax_ax hp (hv.ok hp hR) (h.ok hp hR) (hR _ hq)]
    exact .step (ih hv) hq
theorem Sp.sub (hp : 0 < p) (hB : Oks p L B) (h : ∀ r ∈ A, Sp p L B r) (k : Sp p L A v) : Sp p L B v := by
  induction k with
  | zero => exact .zero
  | step _ hr ih => exact ih.more hp hB (h _ hr)
theorem Sp.mem (hp : 0 < p) (hR : Oks p L R) (h : r ∈ R) : Sp p L R r := by
  have e : ax p (zs L) 1 r = r := eq_of_C (ax_ok hp (by simp [zs]) (hR _ h).len) (hR _ h) fun i hi => by
    refine (ax_C (by simp [zs]) (hR _ h).len hi).trans (C.of_eq ?_)
    rw [zs_get]; grind
  rw [← e]
  exact .step .zero h
theorem Sp.mono (h : ∀ r ∈ A, r ∈ B) (k : Sp p L A v) : Sp p L B v := by
  induction k with
  | zero => exact .zero
  | step _ hr ih => exact .step ih (h _ hr)
/-! ### all multiples of one more row -/
/-- the numbers below p -/
def rg (p : Nat) : List Int := (List.range p).map fun (k : Nat) => (k : Int)
theorem mem_rg {n : Nat} {t : Int} : t ∈ rg n ↔ 0 ≤ t ∧ t < n := by
  unfold rg
  rw [List.mem_map]
  constructor
  · rintro ⟨k, hk, rfl⟩
    rw [List.mem_range] at hk
    omega
  · rintro ⟨h0, h1⟩
    exact ⟨t.toNat, by rw [List.mem_range]; omega, by omega⟩
theorem ax_wrap (hp : 0 < p) (hv : v.length = L) (hr : r.length = L) : ax p v (t % p) r = ax p v t r :=
  eq_of_C (ax_ok hp hv hr) (ax_ok hp hv hr) fun i hi => (ax_C hv hr hi).trans ((C.add (C.refl _ _) (C.mul (C.mod p t) (C.refl _ _))).trans (ax_C hv hr hi).symm)
theorem ax_comm (hp : 0 < p) (hv : v.length = L) (hr : r.length = L) (hq : q.length = L) : ax p (ax p v t r) s q = ax p (ax p v s q) t r :=
  eq_of_C (ax_ok hp (ax_len hv hr) hq) (ax_ok hp (ax_len hv hq) hr) fun i hi => by
    refine (ax_C (ax_len hv hr) hq hi).trans (C.trans ?_ (ax_C (ax_len hv hq) hr hi).symm)
    refine (C.add (ax_C hv hr hi) (C.refl _ _)).trans (C.trans ?_ (C.add (ax_C hv hq hi) (C.refl _ _)).symm)
    exact C.of_eq (by grind)
theorem ax_same (hp : 0 < p) (hv : v.length = L) (hr : r.length = L) : ax p (ax p v t r) s r = ax p v (t + s) r :=
  eq_of_C (ax_ok hp (ax_len hv hr) hr) (ax_ok hp hv hr) fun i hi => by
    refine (ax_C (ax_len hv hr) hr hi).trans (C.trans ?_ (ax_C hv hr hi).symm)
    refine (C.add (ax_C hv hr hi) (C.refl _ _)).trans (C.of_eq (by grind))
theorem ax_no (hp : 0 < p) (hv : Ok p L v) (hr : r.length = L) : ax p v 0 r = v := eq_of_C (ax_ok hp hv.len hr) hv fun i hi => (ax_C hv.len hr hi).trans (C.of_eq (by grind))
/-- what is reached with one row more -/
theorem sp_snoc (hp : 0 < p) (hR : Oks p L R) (hr : Ok p L r) : Sp p L (R ++ [r]) v ↔ ∃ w t, Sp p L R w ∧ 0 ≤ t ∧ t < p ∧ v = ax p w t r := by
  constructor
  · intro h
    induction h with
    | zero => exact ⟨zs L, 0, .zero, Int.le_refl _, hp, (ax_no hp (zs_ok hp) hr.len).symm⟩
    | @step v q s h hq ih =>
      obtain ⟨w, t, hw, h0, h1, rfl⟩ := ih
      have wl := (hw.ok hp hR).len
      rcases List.mem_append.mp hq with hq | hq
      · exact ⟨ax p w s q, t, .step hw hq, h0, h1, ax_comm hp wl hr.len (hR _ hq).len⟩
      · obtain rfl : q = r := by simpa using hq
        exact ⟨w, (t + s) % p, hw, Int.emod_nonneg _ (by omega), Int.emod_lt_of_pos _ hp, by rw [ax_same hp wl hr.len, ax_wrap hp wl hr.len]⟩
  · rintro ⟨w, t, hw, _, _, rfl⟩
    exact .step (hw.mono fun q hq => List.mem_append_left _ hq) (by simp)
theorem sp_snoc_in (hp : 0 < p) (hR : Oks p L R) (h : Sp p L R r) : Sp p L (R ++ [r]) v ↔ Sp p L R v :=
  ⟨fun k => k.sub hp hR fun q hq => by
    rcases List.mem_append.mp hq with hq | hq
    · exact Sp.mem hp hR hq
    · obtain rfl : q = r := by simpa using hq
      exact h, fun k => k.mono fun q hq => List.mem_append_left _ hq⟩
/-- p has inverses -/
def Inv (p : Int) : Prop := 1 < p ∧ ∀ d, 0 < d → d < p → ∃ e, C p (d * e) 1
theorem inv_of {p : Nat} (h : p = 2 ∨ p = 3 ∨ p = 5 ∨ p = 7) : Inv p := by
  have key : ∀ (n : Nat) (l : List Int), 1 < n → ((List.range n).all fun d => d == 0 || l.any fun e => ((d : Int) * e) % n == 1) = true → Inv n := fun n l h1 h2 => by
    refine ⟨by omega, fun d h0 h3 => ?_⟩
    have := List.all_eq_true.mp h2 d.toNat (by rw [List.mem_range]; omega)
    simp only [Bool.or_eq_true, beq_iff_eq, List.any_eq_true] at this
    rcases this with z | ⟨e, _, he⟩
    · omega
    · refine ⟨e, C.of_mod ?_⟩
      rw [show ((d.toNat : Nat) : Int) = d by omega] at he
      rw [he, Int.emod_eq_of_lt (by omega) (by omega)]
  rcases h with rfl | rfl | rfl | rfl
  · exact key 2 [1] (by decide) (by decide)
  · exact key 3 [1, 2] (by decide) (by decide)
  · exact key 5 [1, 2, 3, 4] (by decide) (by decide)
  · exact key 7 [1, 2, 3, 4, 5, 6] (by decide) (by decide)
/-- a row that is not reached: its multiples lie apart -/
theorem apart (hI : Inv p) (hR : Oks p L R) (hr : Ok p L r) (hn : ¬ Sp p L R r) (hv : Sp p L R v) (hw : Sp p L R w) (h0 : 0 ≤ t) (h1 : t < p) (h2 : 0 ≤ s) (h3 : s < p) (e : ax p v t r = ax p w s r) : t = s ∧ v = w := by
  have hp : 0 < p := by have := hI.1; omega
  have ov := hv.ok hp hR
  have ow := hw.ok hp hR
  have cc : ∀ i, i < L → C p (v.getD i 0 + t * r.getD i 0) (w.getD i 0 + s * r.getD i 0) := fun i hi => by
    have a := ax_C (p := p) (t := t) ov.len hr.len hi
    rw [e] at a
    exact a.symm.trans (ax_C ow.len hr.len hi)
  have key : ∀ {a b : Int} {x y : List Int}, Sp p L R x → Sp p L R y → 0 ≤ a → b < p → a < b → (∀ i, i < L → C p (x.getD i 0 + b * r.getD i 0) (y.getD i 0 + a * r.getD i 0)) → False := fun {a b x y} hx hy h0 h1 hab hc => by
    obtain ⟨e1, he⟩ := hI.2 (b - a) (by omega) (by omega)
    have ox := hx.ok hp hR
    have oy := hy.ok hp hR
    apply hn
    have er : r = ax p (ax p (zs L) e1 y) (-e1) x := eq_of_C hr (ax_ok hp (ax_len (by simp [zs]) oy.len) ox.len) fun i hi => by
      refine C.trans ?_ (ax_C (ax_len (by simp [zs]) oy.len) ox.len hi).symm
      refine C.trans ?_ (C.add (ax_C (by simp [zs]) oy.len hi) (C.refl _ _)).symm
      rw [zs_get]
      -- (b - a) r = y - x
      have h1 : C p ((b - a) * r.getD i 0) (y.getD i 0 - x.getD i 0) := by
        obtain ⟨k, hk⟩ := hc i hi
        exact ⟨k, by grind⟩
      have h2 := (C.mul (C.refl p e1) h1)
      have h3 : C p (e1 * ((b - a) * r.getD i 0)) (1 * r.getD i 0) := (C.of_eq (by grind)).trans (C.mul he (C.refl p (r.getD i 0)))
      refine C.trans (C.of_eq ?_) (h3.symm.trans (h2.trans (C.of_eq ?_))) <;> grind
    rw [er]
    exact (Sp.zero.more hp hR hy).more hp hR hx
  have et : t = s := by
    rcases Int.lt_trichotomy t s with h | h | h
    · exact (key hw hv h0 h3 h fun i hi => (cc i hi).symm).elim
    · exact h
    · exact (key hv hw h2 h1 h cc).elim
  subst et
  refine ⟨rfl, eq_of_C ov ow fun i hi => ?_⟩
  obtain ⟨k, hk⟩ := cc i hi
  exact ⟨k, by grind⟩
end
end LA
end
section
/-! LA2: two ways to list what rows reach. -/
namespace LA
section
variable {p : Int} {L : Nat} {R : List (List Int)} {F G : List (List Int)} {v w r : List Int}
/-- F lists what R reaches, each once -/
structure Lst (p : Int) (L : Nat) (R F : List (List Int)) : Prop where
  nd : F.Nodup
  mem : ∀ v, v ∈ F ↔ Sp p L R v
theorem Lst.perm (a : Lst p L R F) (b : Lst p L R G) : F.Perm G := (List.perm_ext_iff_of_nodup a.nd b.nd).mpr fun v => (a.mem v).trans (b.mem v).symm
theorem Lst.congr {R' : List (List Int)} (a : Lst p L R F) (h : ∀ v, Sp p L R v ↔ Sp p L R' v) : Lst p L R' F := ⟨a.nd, fun v => (a.mem v).trans (h v)⟩
theorem lst_nil : Lst p L [] [zs L] := ⟨by simp, fun v => by
  rw [List.mem_singleton]
  constructor
  · rintro rfl; exact .zero
  · intro h
    cases h with
    | zero => rfl
    | step _ h => cases h⟩
theorem rg_nodup {n : Nat} : (rg n).Nodup := by
  unfold rg
  exact List.pairwise_map.mpr (List.nodup_range.imp fun h e => h (by omega))
theorem rg_len {n : Nat} : (rg n).length = n := by simp [rg]
/-- the numbers outside, the words inside -/
def grow1 (n : Nat) (F : List (List Int)) (r : List Int) : List (List Int) := (rg n).flatMap fun t => F.map fun w => ax n w t r
/-- the words outside, the numbers inside -/
def grow2 (n : Nat) (F : List (List Int)) (r : List Int) : List (List Int) := F.flatMap fun w => (rg n).map fun t => ax n w t r
theorem grow1_len {n : Nat} : (grow1 n F r).length = F.length * n := by
  unfold grow1
  rw [List.length_flatMap]
  simp only [List.length_map]
  rw [List.map_const', List.sum_replicate_nat, rg_len, Nat.mul_comm]
theorem grow2_len {n : Nat} : (grow2 n F r).length = F.length * n := by
  unfold grow2
  rw [List.length_flatMap]
  simp only [List.length_map, rg_len]
  rw [List.map_const', List.sum_replicate_nat]
theorem grow_mem {n : Nat} {v : List Int} : (v ∈ grow1 n F r ↔ ∃ w, ∃ t : Int, w ∈ F ∧ 0 ≤ t ∧ t < (n : Int) ∧ v = ax n w t r) ∧ (v ∈ grow2 n F r ↔ ∃ w, ∃ t : Int, w ∈ F ∧ 0 ≤ t ∧ t < (n : Int) ∧ v = ax n w t r) := by
  unfold grow1 grow2
  constructor
  · simp only [List.mem_flatMap, List.mem_map, mem_rg]
    constructor
    · rintro ⟨t, ⟨h0, h1⟩, w, hw, rfl⟩; exact ⟨w, t, hw, h0, h1, rfl⟩
    · rintro ⟨w, t, hw, h0, h1, rfl⟩; exact ⟨t, ⟨h0, h1⟩, w, hw, rfl⟩
  · simp only [List.mem_flatMap, List.mem_map, mem_rg]
    constructor
    · rintro ⟨w, hw, t, ⟨h0, h1⟩, rfl⟩; exact ⟨w, t, hw, h0, h1, rfl⟩
    · rintro ⟨w, t, hw, h0, h1, rfl⟩; exact ⟨w, hw, t, ⟨h0, h1⟩, rfl⟩
theorem lst_out {n : Nat} (hI : Inv n) (hR : Oks n L R) (hr : Ok n L r) (hn : ¬ Sp n L R r) (h : Lst n L R F) : Lst n L (R ++ [r]) (grow1 n F r) ∧ Lst n L (R ++ [r]) (grow2 n F r) := by
  have hp : (0 : Int) < n := by have := hI.1; omega
  have mm : ∀ v, (∃ w t, w ∈ F ∧ 0 ≤ t ∧ t < (n : Int) ∧ v = ax n w t r) ↔ Sp n L (R ++ [r]) v := fun v => by
    rw [sp_snoc hp hR hr]
    constructor
    · rintro ⟨w, t, hw, h0, h1, e⟩; exact ⟨w, t, (h.mem w).mp hw, h0, h1, e⟩
    · rintro ⟨w, t, hw, h0, h1, e⟩; exact ⟨w, t, (h.mem w).mpr hw, h0, h1, e⟩
  refine ⟨⟨?_, fun v => (grow_mem.1).trans (mm v)⟩, ⟨?_, fun v => (grow_mem.2).trans (mm v)⟩⟩
  · unfold grow1
    refine List.pairwise_flatMap.mpr ⟨fun t ht => List.pairwise_map.mpr ?_, ?_⟩
    · rw [mem_rg] at ht
      refine List.Pairwise.imp_of_mem ?_ h.nd
      intro a b ha hb hab e
      exact hab (apart hI hR hr hn ((h.mem a).mp ha) ((h.mem b).mp hb) ht.1 ht.2 ht.1 ht.2 e).2
    · refine List.Pairwise.imp_of_mem ?_ (rg_nodup (n := n))
      intro a b ha hb hab x hx y hy e
      rw [mem_rg] at ha hb
      rw [List.mem_map] at hx hy
      obtain ⟨u, hu, rfl⟩ := hx
      obtain ⟨q, hq, rfl⟩ := hy
      exact hab (apart hI hR hr hn ((h.mem u).mp hu) ((h.mem q).mp hq) ha.1 ha.2 hb.1 hb.2 e).1
  · unfold grow2
    refine List.pairwise_flatMap.mpr ⟨fun w hw => List.pairwise_map.mpr ?_, ?_⟩
    · refine List.Pairwise.imp_of_mem ?_ (rg_nodup (n := n))
      intro a b ha hb hab e
      rw [mem_rg] at ha hb
      exact hab (apart hI hR hr hn ((h.mem w).mp hw) ((h.mem w).mp hw) ha.1 ha.2 hb.1 hb.2 e).1
    · refine List.Pairwise.imp_of_mem ?_ h.nd
      intro a b ha hb hab x hx y hy e
      rw [List.mem_map] at hx hy
      obtain ⟨u, hu, rfl⟩ := hx
      obtain ⟨q, hq, rfl⟩ := hy
      rw [mem_rg] at hu hq
      exact hab (apart hI hR hr hn ((h.mem a).mp ha) ((h.mem b).mp hb) hu.1 hu.2 hq.1 hq.2 e).2
theorem lst_in {n : Nat} (hI : Inv n) (hR : Oks n L R) (hn : Sp n L R r) (h : Lst n L R F) : Lst n L (R ++ [r]) F := h.congr fun v => (sp_snoc_in (by have := hI.1; omega) hR hn).symm
/-! ### the law's way -/
def lawStep (n : Nat) (F : List (List Int)) (r : List Int) : List (List Int) := if r ∈ F then F else grow1 n F r
def lawAll (n L : Nat) (rows : List (List Int)) : List (List Int) := rows.foldl (lawStep n) [zs L]
theorem law_lst {n : Nat} (hI : Inv n) : ∀ (rows R F : List (List Int)), Oks n L R → Oks n L rows → Lst n L R F → Lst n L (R ++ rows) (rows.foldl (lawStep n) F)
  | [], R, F, _, _, h => by simpa using h
  | r :: rows, R, F, hR, hr, h => by
    have h2 : Oks n L (R ++ [r]) := fun q hq => by
      rcases List.mem_append.mp hq with hq | hq
      · exact hR q hq
      · obtain rfl : q = r := by simpa using hq
        exact hr _ List.mem_cons_self
    have h3 : Lst n L (R ++ [r]) (lawStep n F r) := by
      unfold lawStep
      by_cases e : r ∈ F
      · rw [if_pos e]; exact lst_in hI hR ((h.mem r).mp e) h
      · rw [if_neg e]; exact (lst_out hI hR (hr r List.mem_cons_self) (fun k => e ((h.mem r).mpr k)) h).1
    have := law_lst hI rows (R ++ [r]) _ h2 (fun q hq => hr q (List.mem_cons_of_mem _ hq)) h3
    rw [List.append_assoc] at this
    exact this
theorem lawAll_lst {n : Nat} (hI : Inv n) {rows : List (List Int)} (h : Oks n L rows) : Lst n L rows (lawAll n L rows) := by
  have := law_lst hI rows [] [zs L] (fun _ q => by cases q) h lst_nil
  simpa [lawAll] using this
/-! ### the program's way, over rows with pivots -/
def progAll (n L : Nat) (rows : List (List Int)) : List (List Int) := rows.foldl (grow2 n) [zs L]
/-- each row has a column in which it is 1 and the rows ahead of it are 0 -/
def Piv (L : Nat) (B : List (List Int)) (cs : List Nat) : Prop := B.length = cs.length ∧ ∀ (i : Nat) (c : Nat), cs[i]? = some c → c < L ∧ ∀ (j : Nat) (r : List Int), B[j]? = some r → r.getD c 0 = if j = i then 1 else 0
theorem sp_col {n : Nat} {c : Nat} (hn : (0 : Int) < n) (hR : Oks n L R) (hc : c < L) (h0 : ∀ r ∈ R, r.getD c 0 = 0) (h : Sp n L R v) : v.getD c 0 = 0 := by
  induction h with
  | zero => exact zs_get
  | @step v r t h hr ih =>
    rw [ax_get (h.ok hn hR).len (hR _ hr).len hc, ih, h0 _ hr]
    simp
theorem prog_lst {n : Nat} (hI : Inv n) : ∀ (rows R F : List (List Int)), Oks n L R → Oks n L rows → Lst n L R F →
    (∀ (k : Nat) (r : List Int), rows[k]? = some r → ∃ c, c < L ∧ r.getD c 0 = 1 ∧ ∀ q ∈ R ++ rows.take k, q.getD c 0 = 0) → Lst n L (R ++ rows) (rows.foldl (grow2 n) F) ∧ (rows.foldl (grow2 n) F).length = F.length * n ^ rows.length
  | [], R, F, _, _, h, _ => by simpa using h
  | r :: rows, R, F, hR, hr, h, hc => by
    have hp : (0 : Int) < n := by have := hI.1; omega
    have h2 : Oks n L (R ++ [r]) := fun q hq => by
      rcases List.mem_append.mp hq with hq | hq
      · exact hR q hq
      · obtain rfl : q = r := by simpa using hq
        exact hr _ List.mem_cons_self
    obtain ⟨c, hcL, e1, e0⟩ := hc 0 r (by simp)
    have h3 : Lst n L (R ++ [r]) (grow2 n F r) := (lst_out hI hR (hr r List.mem_cons_self) (fun k => by
      have := sp_col hp hR hcL (fun q hq => e0 q (by simpa using hq)) k
      rw [e1] at this
      cases this) h).2
    obtain ⟨g1, g2⟩ := prog_lst hI rows (R ++ [r]) _ h2 (fun q hq => hr q (List.mem_cons_of_mem _ hq)) h3 fun k q hk => by
      obtain ⟨c, a1, a2, a3⟩ := hc (k + 1) q (by simpa using hk)
      exact ⟨c, a1, a2, fun u hu => a3 u (by simpa [List.take_succ_cons] using hu)⟩
    rw [List.append_assoc] at g1
    refine ⟨g1, ?_⟩
    rw [List.foldl_cons, g2, grow2_len, List.length_cons, Nat.pow_succ, Nat.mul_assoc, Nat.mul_comm n]
theorem progAll_lst {n : Nat} (hI : Inv n) {B : List (List Int)} {cs : List Nat} (h : Oks n L B) (hp : Piv L B cs) : Lst n L B (progAll n L B) ∧ (progAll n L B).length = n ^ B.length := by
  have := prog_lst hI B [] [zs L] (fun _ q => by cases q) h lst_nil fun k r hk => by
    have hk' : k < B.length := by
      rcases Nat.lt_or_ge k B.length with w | w
      · exact w
      · rw [List.getElem?_eq_none w] at hk; cases hk
    have hck : cs[k]? = some (cs[k]'(by rw [← hp.1]; exact hk')) := List.getElem?_eq_getElem _
    obtain ⟨a1, a2⟩ := hp.2 k _ hck
    refine ⟨_, a1, by simpa using a2 k r hk, fun q hq => ?_⟩
    obtain ⟨j, hj, rfl⟩ := List.getElem_of_mem (show q ∈ B.take k by simpa using hq)
    have hj' : j < k := by have := hj; rw [List.length_take] at this; omega
    have := a2 j (B[j]'(by omega)) (List.getElem?_eq_getElem _)
    rw [if_neg (by omega)] at this
    rw [List.getElem_take]
    exact this
  simpa [progAll] using this
end
end LA
end
section
/-! LA3: elimination. -/
namespace LA
def rw_ (R : List (List Int)) (i : Nat) : List Int := R.getD i []
def swp (R : List (List Int)) (m u : Nat) : List (List Int) := (R.set m (rw_ R u)).set u (rw_ R m)
def mainR (p inv : Int) (r : List Int) : List Int := r.map fun e => e * inv % p
def pvt (p inv : Int) (R : List (List Int)) (m c : Nat) : List (List Int) := R.mapIdx fun i row => if i = m then mainR p inv (rw_ R m) else List.zipWith (fun e own => (e - row.getD c 0 * own) % p) row (mainR p inv (rw_ R m))
def usable (R : List (List Int)) (m c : Nat) : List Nat := (List.range' m (R.length - m)).filter fun i => (rw_ R i).getD c 0 != 0
def gstep (p : Int) (iv : Int → Int) (st : List (List Int) × List Nat) (c : Nat) : List (List Int) × List Nat := match usable st.1 st.2.length c with
  | [] => st
  | u :: _ => (pvt p (iv ((rw_ (swp st.1 st.2.length u) st.2.length).getD c 0)) (swp st.1 st.2.length u) st.2.length c, st.2 ++ [c])
def gauss (p : Int) (iv : Int → Int) (L : Nat) (R : List (List Int)) : List (List Int) × List Nat := (List.range L).foldl (gstep p iv) (R, [])
section
variable {p : Int} {L : Nat} {R R0 : List (List Int)} {v w r q : List Int} {m u c : Nat} {iv : Int → Int} {cs : List Nat}
theorem rw_at {i : Nat} (h : R[i]? = some r) : rw_ R i = r := by unfold rw_; rw [List.getD_eq_getElem?_getD, h]; rfl
theorem at_rw {i : Nat} (h : i < R.length) : R[i]? = some (rw_ R i) := by unfold rw_; rw [List.getD_eq_getElem?_getD, List.getElem?_eq_getElem h]; rfl
theorem lt_at {i : Nat} (h : R[i]? = some r) : i < R.length := by
  rcases Nat.lt_or_ge i R.length with w | w
  · exact w
  · rw [List.getElem?_eq_none w] at h; cases h
theorem swp_at (hm : m < R.length) (hu : u < R.length) (i : Nat) : (swp R m u)[i]? = if i = u then some (rw_ R m) else if i = m then some (rw_ R u) else R[i]? := by
  unfold swp
  by_cases h1 : i = u
  · subst h1; rw [if_pos rfl, List.getElem?_set_self (by simpa using hu)]
  · rw [if_neg h1, List.getElem?_set_ne (fun h => h1 h.symm)]
    by_cases h2 : i = m
    · subst h2; rw [if_pos rfl, List.getElem?_set_self hm]
    · rw [if_neg h2, List.getElem?_set_ne (fun h => h2 h.symm)]
theorem swp_len : (swp R m u).length = R.length := by simp [swp]
theorem mem_at (h : r ∈ R) : ∃ i : Nat, R[i]? = some r := List.getElem?_of_mem h
theorem swp_mem (hm : m < R.length) (hu : u < R.length) : r ∈ swp R m u ↔ r ∈ R := by
  constructor
  · intro h
    obtain ⟨i, hi⟩ := mem_at h
    rw [swp_at hm hu] at hi
    split at hi
    · cases hi; exact List.mem_of_getElem? (at_rw hm)
    · split at hi
      · cases hi; exact List.mem_of_getElem? (at_rw hu)
      · exact List.mem_of_getElem? hi
  · intro h
    obtain ⟨i, hi⟩ := mem_at h
    by_cases h1 : i = u
    · subst h1
      have e := (at_rw hu).symm.trans hi
      by_cases h2 : m = i
      · subst h2
        refine List.mem_of_getElem? (i := m) ?_
        rw [swp_at hm hu, if_pos rfl]; exact e
      · refine List.mem_of_getElem? (i := m) ?_
        rw [swp_at hm hu, if_neg h2, if_pos rfl]; exact e
    · by_cases h2 : i = m
      · subst h2
        have e := (at_rw hm).symm.trans hi
        refine List.mem_of_getElem? (i := u) ?_
        rw [swp_at hm hu, if_pos rfl]; exact e
      · refine List.mem_of_getElem? (i := i) ?_
        rw [swp_at hm hu, if_neg h1, if_neg h2]; exact hi
theorem pvt_at {inv : Int} (i : Nat) : (pvt p inv R m c)[i]? = R[i]?.map fun row => if i = m then mainR p inv (rw_ R m) else List.zipWith (fun e own => (e - row.getD c 0 * own) % p) row (mainR p inv (rw_ R m)) := by
  unfold pvt
  rw [List.getElem?_mapIdx]
theorem main_ax (hp : 0 < p) {inv : Int} (hr : r.length = L) : mainR p inv r = ax p (zs L) inv r := by
  have h1 : (mainR p inv r).length = L := by simp [mainR, hr]
  refine ext h1 (ax_len (by simp [zs]) hr) fun i hi => ?_
  rw [ax_get (by simp [zs]) hr hi, zs_get]
  unfold mainR
  rw [List.getD_eq_getElem?_getD, List.getElem?_map, List.getElem?_eq_getElem (by omega), List.getD_eq_getElem?_getD, List.getElem?_eq_getElem (by omega)]
  simp [Int.mul_comm]
theorem sub_ax {f : Int} : List.zipWith (fun e own => (e - f * own) % p) r q = ax p r (-f) q := by
  unfold ax
  congr 1
  funext a b
  congr 1
  grind
/-- after the columns ahead of c -/
structure GI (p : Int) (L : Nat) (R0 : List (List Int)) (c : Nat) (R : List (List Int)) (cs : List Nat) : Prop where
  ok : Oks p L R
  sp : ∀ v, Sp p L R v ↔ Sp p L R0 v
  len : R.length = R0.length
  le : cs.length ≤ R.length
  piv : ∀ (j l : Nat), cs[j]? = some l → l < c ∧ ∀ (i : Nat) (r : List Int), R[i]? = some r → r.getD l 0 = if i = j then 1 else 0
  zero : ∀ (i : Nat) (r : List Int), R[i]? = some r → cs.length ≤ i → ∀ c', c' < c → r.getD c' 0 = 0
theorem gi_start (h : Oks p L R0) : GI p L R0 0 R0 [] := ⟨h, fun _ => Iff.rfl, rfl, by simp, fun j l e => by simp at e, fun _ _ _ _ c' h => absurd h (by omega)⟩
theorem gi_step (hI : Inv p) (hiv : ∀ x, 0 < x → x < p → C p (x * iv x) 1) (hc : c < L) (g : GI p L R0 c R cs) : GI p L R0 (c + 1) (gstep p iv (R, cs) c).1 (gstep p iv (R, cs) c).2 := by
  have hp : 0 < p := by have := hI.1; omega
  unfold gstep
  simp only
  cases hu : usable R cs.length c with
  | nil =>
    show GI p L R0 (c + 1) R cs
    refine ⟨g.ok, g.sp, g.len, g.le, fun j l e => ⟨by have := (g.piv j l e).1; omega, (g.piv j l e).2⟩, fun i r hr hi c' hc' => ?_⟩
    by_cases e : c' = c
    · subst e
      have hil := lt_at hr
      have hn : i ∉ usable R cs.length c' := by rw [hu]; simp
      unfold usable at hn
      rw [List.mem_filter] at hn
      have hm : i ∈ List.range' cs.length (R.length - cs.length) := by rw [List.mem_range']; exact ⟨i - cs.length, by omega, by omega⟩
      rw [rw_at hr] at hn
      by_cases z : r.getD c' 0 = 0
      · exact z
      · exact absurd ⟨hm, by simpa using z⟩ hn
    · exact g.zero i r hr hi c' (by omega)
  | cons u us =>
    show GI p L R0 (c + 1) (pvt p (iv ((rw_ (swp R cs.length u) cs.length).getD c 0)) (swp R cs.length u) cs.length c) (cs ++ [c])
    have hmem : u ∈ usable R cs.length c := by rw [hu]; simp
    unfold usable at hmem
    rw [List.mem_filter, List.mem_range'] at hmem
    obtain ⟨⟨k, hk, rfl⟩, hnz⟩ := hmem
    have hnz : (rw_ R (cs.length + 1 * k)).getD c 0 ≠ 0 := by simpa using hnz
    generalize hU : cs.length + 1 * k = u at *
    have hul : u < R.length := by omega
    have hml : cs.length < R.length := by omega
    have hmu : cs.length ≤ u := by omega
    generalize hm : cs.length = m at *
    -- the rows exchanged
    have ok1 : Oks p L (swp R m u) := fun r hr => g.ok r ((swp_mem hml hul).mp hr)
    have at1 := fun i => swp_at (R := R) hml hul i
    have len1 : (swp R m u).length = R.length := swp_len
    generalize hR1 : swp R m u = R1 at *
    have e1 : R1[m]? = some (rw_ R u) := by
      rw [at1]
      by_cases h : m = u
      · rw [if_pos h, h]
      · rw [if_neg h, if_pos rfl]
    have om : Ok p L (rw_ R1 m) := ok1 _ (List.mem_of_getElem? (at_rw (by omega)))
    have erm : rw_ R1 m = rw_ R u := rw_at e1
    have nz1 : (rw_ R1 m).getD c 0 ≠ 0 := by rw [erm]; exact hnz
    -- rows of R1 from m on: zero ahead of c; at pivots as before
    have z1 : ∀ (i : Nat) (r : List Int), R1[i]? = some r → m ≤ i → ∀ c', c' < c → r.getD c' 0 = 0 := fun i r hr hi c' hc' => by
      rw [at1] at hr
      split at hr
      · cases hr; exact g.zero m _ (at_rw hml) (by omega) c' hc'
      · split at hr
        · cases hr; exact g.zero u _ (at_rw hul) (by omega) c' hc'
        · exact g.zero i r hr (by omega) c' hc'
    have p1 : ∀ (j l : Nat), cs[j]? = some l → l < c ∧ ∀ (i : Nat) (r : List Int), R1[i]? = some r → r.getD l 0 = if i = j then 1 else 0 := fun j l e => by
      obtain ⟨h1, h2⟩ := g.piv j l e
      have hj : j < m := by
        rcases Nat.lt_or_ge j cs.length with w | w
        · omega
        · rw [List.getElem?_eq_none w] at e; cases e
      refine ⟨h1, fun i r hr => ?_⟩
      rw [at1] at hr
      split at hr
      · cases hr
        have := h2 m _ (at_rw hml)
        rw [this, if_neg (by omega), if_neg (by omega)]
      · split at hr
        · cases hr
          have := h2 u _ (at_rw hul)
          rw [this, if_neg (by omega), if_neg (by omega)]
        · exact h2 i r hr
    have sp1 : ∀ v, Sp p L R1 v ↔ Sp p L R0 v := fun v => by
      rw [← g.sp v]
      exact ⟨fun h => h.mono fun r hr => (by rw [← hR1] at hr; exact (swp_mem hml hul).mp hr), fun h => h.mono fun r hr => (by rw [← hR1]; exact (swp_mem hml hul).mpr hr)⟩
    -- the pivot
    have xb := om.bd c hc
    have x0 : 0 < (rw_ R1 m).getD c 0 := by omega
    have hinv := hiv _ x0 xb.2
    generalize hx : (rw_ R1 m).getD c 0 = x at *
    generalize hinvx : iv x = inv at *
    have emain : mainR p inv (rw_ R1 m) = ax p (zs L) inv (rw_ R1 m) := main_ax hp om.len
    generalize hmn : mainR p inv (rw_ R1 m) = mn at *
    have okm : Ok p L mn := by rw [emain]; exact ax_ok hp (by simp [zs]) om.len
    have mget : ∀ i, i < L → mn.getD i 0 = (inv * (rw_ R1 m).getD i 0) % p := fun i hi => by
      rw [emain, ax_get (by simp [zs]) om.len hi, zs_get]; simp
    have at2 : ∀ i, (pvt p inv R1 m c)[i]? = R1[i]?.map fun row => if i = m then mn else ax p row (-(row.getD c 0)) mn := fun i => by
      rw [pvt_at, hmn]
      congr 1
      funext row
      rw [sub_ax]
    have ok2 : Oks p L (pvt p inv R1 m c) := fun r hr => by
      obtain ⟨i, hi⟩ := mem_at hr
      rw [at2] at hi
      cases h : R1[i]? with
      | none => rw [h] at hi; cases hi
      | some row =>
        rw [h] at hi
        have hi : (if i = m then mn else ax p row (-(row.getD c 0)) mn) = r := by simpa using hi
        rw [← hi]
        split
        · exact okm
        · exact ax_ok hp (ok1 row (List.mem_of_getElem? h)).len okm.len
    have mem2 : mn ∈ pvt p inv R1 m c := List.mem_of_getElem? (i := m) (by rw [at2, e1]; simp)
    have mc : mn.getD c 0 = 1 := by
      rw [mget c hc, hx]
      have := hinv.emod
      rw [Int.mul_comm, this, Int.emod_eq_of_lt (by omega) hI.1]
    have old : ∀ l, l < c → mn.getD l 0 = 0 := fun l hl => by
      rw [mget l (by omega), z1 m _ (at_rw (by omega)) (Nat.le_refl _) l hl]; simp
    refine ⟨ok2, fun v => ?_, ?_, ?_, fun j l e => ?_, fun i r hr hi c' hc' => ?_⟩
    · rw [← sp1 v]
      constructor
      · intro h
        refine h.sub hp ok1 fun r hr => ?_
        obtain ⟨i, hi⟩ := mem_at hr
        rw [at2] at hi
        cases h : R1[i]? with
        | none => rw [h] at hi; cases hi
        | some row =>
          rw [h] at hi
          have hi : (if i = m then mn else ax p row (-(row.getD c 0)) mn) = r := by simpa using hi
          have smn : Sp p L R1 mn := by rw [emain]; exact .step .zero (List.mem_of_getElem? (at_rw (by omega)))
          rw [← hi]
          split
          · exact smn
          · exact (Sp.mem hp ok1 (List.mem_of_getElem? h)).more hp ok1 smn
      · intro h
        refine h.sub hp ok2 fun r hr => ?_
        have orr := ok1 r hr
        obtain ⟨i, hi⟩ := mem_at hr
        by_cases him : i = m
        · subst him
          have er : r = ax p (zs L) x mn := by
            refine eq_of_C orr (ax_ok hp (by simp [zs]) okm.len) fun k hk => ?_
            refine C.trans ?_ (ax_C (by simp [zs]) okm.len hk).symm
            rw [zs_get, mget k hk, rw_at hi]
            have h1 := C.mul (C.refl p x) (C.mod p (inv * r.getD k 0))
            have h2 : C p (x * inv * r.getD k 0) (1 * r.getD k 0) := C.mul hinv (C.refl p _)
            refine C.trans (C.of_eq (by grind)) (h2.symm.trans (C.trans (C.of_eq (by grind)) (h1.symm.trans (C.of_eq (by grind)))))
          rw [er]
          exact .step .zero mem2
        · have hn : ax p r (-(r.getD c 0)) mn ∈ pvt p inv R1 m c := List.mem_of_getElem? (i := i) (by rw [at2, hi]; simp [him])
          have er : r = ax p (ax p r (-(r.getD c 0)) mn) (r.getD c 0) mn := by
            rw [ax_same hp orr.len okm.len]
            refine eq_of_C orr (ax_ok hp orr.len okm.len) fun k hk => C.trans (C.of_eq (by grind)) (ax_C orr.len okm.len hk).symm
          rw [er]
          exact .step (Sp.mem hp ok2 hn) mem2
    · unfold pvt; rw [List.length_mapIdx, len1, g.len]
    · have : (pvt p inv R1 m c).length = R1.length := by unfold pvt; rw [List.length_mapIdx]
      rw [List.length_append, this]; simp; omega
    · rcases Nat.lt_or_ge j m with hj | hj
      · have e' : cs[j]? = some l := by rw [List.getElem?_append_left (by omega)] at e; exact e
        obtain ⟨h1, h2⟩ := p1 j l e'
        refine ⟨by omega, fun i r hr => ?_⟩
        rw [at2] at hr
        cases h : R1[i]? with
        | none => rw [h] at hr; cases hr
        | some row =>
          rw [h] at hr
          have hr : (if i = m then mn else ax p row (-(row.getD c 0)) mn) = r := by simpa using hr
          rw [← hr]
          split
          · rw [old l h1, if_neg (by omega)]
          · have orow := ok1 row (List.mem_of_getElem? h)
            rw [ax_get orow.len okm.len (by omega), old l h1, h2 i row h]
            have := hI.1
            split
            · simp; exact Int.emod_eq_of_lt (by omega) (by omega)
            · simp
      · have : j = m ∧ l = c := by
          rw [List.getElem?_append_right (by omega)] at e
          have : j - cs.length = 0 := by
            rcases Nat.eq_zero_or_pos (j - cs.length) with w | w
            · exact w
            · rw [List.getElem?_eq_none (by simp; omega)] at e; cases e
          rw [this] at e
          refine ⟨by omega, by simpa using e.symm⟩
        obtain ⟨rfl, rfl⟩ := this
        refine ⟨by omega, fun i r hr => ?_⟩
        rw [at2] at hr
        cases h : R1[i]? with
        | none => rw [h] at hr; cases hr
        | some row =>
          rw [h] at hr
          have hr : (if i = j then mn else ax p row (-(row.getD l 0)) mn) = r := by simpa using hr
          rw [← hr]
          split
          · exact mc
          · have orow := ok1 row (List.mem_of_getElem? h)
            rw [ax_get orow.len okm.len hc, mc]
            have : row.getD l 0 + -row.getD l 0 * 1 = 0 := by grind
            rw [this]; simp
    · have hi' : m < i := by rw [List.length_append] at hi; simp at hi; omega
      rw [at2] at hr
      cases h : R1[i]? with
      | none => rw [h] at hr; cases hr
      | some row =>
        rw [h] at hr
        have hr : (if i = m then mn else ax p row (-(row.getD c 0)) mn) = r := by simpa using hr
        rw [if_neg (by omega)] at hr
        rw [← hr]
        have orow := ok1 row (List.mem_of_getElem? h)
        rw [ax_get orow.len okm.len (by omega)]
        by_cases ec : c' = c
        · subst ec
          rw [mc]
          have : row.getD c' 0 + -row.getD c' 0 * 1 = 0 := by grind
          rw [this]; simp
        · rw [old c' (by omega), z1 i row h (by omega) c' (by omega)]
          simp
theorem gi_fold (hI : Inv p) (hiv : ∀ x, 0 < x → x < p → C p (x * iv x) 1) (h0 : Oks p L R0) : ∀ n, n ≤ L → GI p L R0 n ((List.range n).foldl (gstep p iv) (R0, [])).1 ((List.range n).foldl (gstep p iv) (R0, [])).2
  | 0, _ => gi_start h0
  | n + 1, hn => by
    rw [List.range_succ, List.foldl_append]
    exact gi_step hI hiv (by omega) (gi_fold hI hiv h0 n (by omega))
/-- what elimination leaves -/
theorem gauss_ok (hI : Inv p) (hiv : ∀ x, 0 < x → x < p → C p (x * iv x) 1) (h0 : Oks p L R0) : Oks p L ((gauss p iv L R0).1.take (gauss p iv L R0).2.length) ∧ Piv L ((gauss p iv L R0).1.take (gauss p iv L R0).2.length) (gauss p iv L R0).2 ∧
    ∀ v, Sp p L ((gauss p iv L R0).1.take (gauss p iv L R0).2.length) v ↔ Sp p L R0 v := by
  have g : GI p L R0 L (gauss p iv L R0).1 (gauss p iv L R0).2 := gi_fold hI hiv h0 L (Nat.le_refl _)
  generalize gauss p iv L R0 = st at g ⊢
  obtain ⟨R, cs⟩ := st
  simp only at g ⊢
  have hp : 0 < p := by have := hI.1; omega
  have okt : Oks p L (R.take cs.length) := fun r hr => g.ok r (List.mem_of_mem_take hr)
  refine ⟨okt, ⟨by rw [List.length_take]; have := g.le; omega, fun i c e => ⟨(g.piv i c e).1, fun j r hr => ?_⟩⟩, fun v => ?_⟩
  · refine (g.piv i c e).2 j r ?_
    rw [List.getElem?_take] at hr
    split at hr
    · exact hr
    · cases hr
  · rw [← g.sp v]
    constructor
    · intro h; exact h.mono fun r hr => List.mem_of_mem_take hr
    · intro h
      refine h.sub hp okt fun r hr => ?_
      obtain ⟨i, hi⟩ := mem_at hr
      rcases Nat.lt_or_ge i cs.length with w | w
      · exact Sp.mem hp okt (List.mem_of_getElem? (i := i) (by rw [List.getElem?_take, if_pos w]; exact hi))
      · have : r = zs L := eq_of_C (g.ok r hr) (zs_ok hp) fun k hk => C.of_eq (by rw [g.zero i r hi w k hk, zs_get])
        rw [this]
        exact .zero
end
end LA
end
section
/-! LA4: the law's list, with its bound, and the program's. -/
namespace LA
/-- the law's list, given up beyond M -/
def lawLim (M n : Nat) : List (List Int) → List (List Int) → Option (List (List Int))
  | F, [] => some F
  | F, r :: rows => if r ∈ F then lawLim M n F rows else if F.length * n > M then none else lawLim M n (grow1 n F r) rows
theorem lawStep_len {n : Nat} (h : 1 ≤ n) (F : List (List Int)) (r : List Int) : F.length ≤ (lawStep n F r).length := by
  unfold lawStep
  split
  · exact Nat.le_refl _
  · rw [grow1_len]; exact Nat.le_mul_of_pos_right _ h
theorem lawFold_len {n : Nat} (h : 1 ≤ n) : ∀ (rows F : List (List Int)), F.length ≤ (rows.foldl (lawStep n) F).length
  | [], F => Nat.le_refl _
  | r :: rows, F => Nat.le_trans (lawStep_len h F r) (lawFold_len h rows _)
theorem lawLim_ok {M n : Nat} (h : 1 ≤ n) : ∀ (rows F : List (List Int)), F.length ≤ M → (lawLim M n F rows = none ∧ M < (rows.foldl (lawStep n) F).length) ∨ (lawLim M n F rows = some (rows.foldl (lawStep n) F) ∧ (rows.foldl (lawStep n) F).length ≤ M)
  | [], F, hF => .inr ⟨rfl, hF⟩
  | r :: rows, F, hF => by
    unfold lawLim
    rw [List.foldl_cons]
    by_cases e : r ∈ F
    · have : lawStep n F r = F := by unfold lawStep; rw [if_pos e]
      rw [if_pos e, this]
      exact lawLim_ok h rows F hF
    · have : lawStep n F r = grow1 n F r := by unfold lawStep; rw [if_neg e]
      rw [if_neg e, this]
      by_cases hz : F.length * n > M
      · rw [if_pos hz]
        refine .inl ⟨rfl, ?_⟩
        have := lawFold_len h rows (grow1 n F r)
        rw [grow1_len] at this
        omega
      · rw [if_neg hz]
        exact lawLim_ok h rows _ (by rw [grow1_len]; omega)
section
variable {n L : Nat} {rows : List (List Int)} {iv : Int → Int}
/-- the rows that elimination leaves -/
def red (n : Nat) (iv : Int → Int) (L : Nat) (rows : List (List Int)) : List (List Int) := (gauss n iv L rows).1.take (gauss n iv L rows).2.length
theorem red_ok (hI : Inv n) (hiv : ∀ x, 0 < x → x < (n : Int) → C n (x * iv x) 1) (h : Oks n L rows) : Oks n L (red n iv L rows) := (gauss_ok hI hiv h).1
theorem red_lst (hI : Inv n) (hiv : ∀ x, 0 < x → x < (n : Int) → C n (x * iv x) 1) (h : Oks n L rows) : Lst n L rows (progAll n L (red n iv L rows)) ∧ (progAll n L (red n iv L rows)).length = n ^ (red n iv L rows).length := by
  obtain ⟨h1, h2, h3⟩ := gauss_ok hI hiv h
  obtain ⟨g1, g2⟩ := progAll_lst hI h1 h2
  exact ⟨g1.congr h3, g2⟩
/-- the law's list and the program's -/
theorem same_words {M : Nat} (hM : 1 ≤ M) (hI : Inv n) (hiv : ∀ x, 0 < x → x < (n : Int) → C n (x * iv x) 1) (h : Oks n L rows) :
    (lawLim M n [zs L] rows = none ∧ M < n ^ (red n iv L rows).length) ∨ (∃ F, lawLim M n [zs L] rows = some F ∧ n ^ (red n iv L rows).length ≤ M ∧ F.Perm (progAll n L (red n iv L rows)) ∧ Lst n L rows F) := by
  obtain ⟨g1, g2⟩ := red_lst hI hiv h
  have l := lawAll_lst hI h
  have p := l.perm g1
  have len : (rows.foldl (lawStep n) [zs L]).length = n ^ (red n iv L rows).length := by rw [← g2]; exact p.length_eq
  have hn : 1 ≤ n := by have := hI.1; omega
  rcases lawLim_ok (M := M) hn rows [zs L] (by simpa using hM) with ⟨a, b⟩ | ⟨a, b⟩
  · exact .inl ⟨a, by omega⟩
  · exact .inr ⟨_, a, by omega, p, l⟩
/-- words of the reduced rows are the same -/
theorem red_again (hI : Inv n) (hiv : ∀ x, 0 < x → x < (n : Int) → C n (x * iv x) 1) (h : Oks n L rows) : (progAll n L (red n iv L (red n iv L rows))).Perm (progAll n L (red n iv L rows)) ∧ (progAll n L (red n iv L (red n iv L rows))).length = n ^ (red n iv L rows).length := by
  obtain ⟨g1, g2⟩ := red_lst hI hiv h
  obtain ⟨_, _, h3⟩ := gauss_ok hI hiv h
  have ok2 := red_ok hI hiv h
  obtain ⟨k1, k2⟩ := red_lst hI hiv ok2
  have p := (k1.congr h3).perm g1
  exact ⟨p, by rw [p.length_eq, g2]⟩
theorem red_len (hI : Inv n) (hiv : ∀ x, 0 < x → x < (n : Int) → C n (x * iv x) 1) (h : Oks n L rows) : (red n iv L rows).length ≤ rows.length := by
  have g : GI n L rows L (gauss n iv L rows).1 (gauss n iv L rows).2 := gi_fold hI hiv h L (Nat.le_refl _)
  unfold red
  rw [List.length_take, g.len]
  omega
/-- unit rows: as many words as there can be -/
theorem unit_big {M k : Nat} (hI : Inv n) (h : Oks n L rows) (hk : rows.length = k) (hu : ∀ (i : Nat) (r : List Int), rows[i]? = some r → i < L ∧ ∀ j, j < L → r.getD j 0 = if j = i then 1 else 0) : (rows.foldl (lawStep n) [zs L]).length = n ^ k := by
  have hp : Piv L rows (List.range rows.length) := ⟨by simp, fun i c e => by
    have hi : i < rows.length := by
      rcases Nat.lt_or_ge i rows.length with w | w
      · exact w
      · rw [List.getElem?_eq_none (by simpa using w)] at e; cases e
    rw [List.getElem?_range hi] at e
    cases e
    obtain ⟨a, _⟩ := hu i _ (List.getElem?_eq_getElem hi)
    refine ⟨a, fun j r hr => ?_⟩
    rw [(hu j r hr).2 i a]
    by_cases e : j = i
    · subst e; simp
    · rw [if_neg e, if_neg (fun w => e w.symm)]⟩
  obtain ⟨g1, g2⟩ := progAll_lst hI h hp
  have := (lawAll_lst hI h).perm g1
  rw [show (rows.foldl (lawStep n) [zs L]) = lawAll n L rows from rfl, this.length_eq, g2, hk]
end
end LA
end
section
namespace W
open PySem L2 PyProof.Rows CI
set_option maxHeartbeats 0
set_option maxRecDepth 100000
def top (i : Nat) : Stmt := PySem.Challenge.pw_strikejoin_k18_words.main.body.getD i (.Pass ⟨0, 0, 0, 0⟩)
def inCls (i j : Nat) : Stmt := match top i with
  | .ClassDef _ _ _ b _ _ _ _ _ _ _ => b.getD j (.Pass ⟨0, 0, 0, 0⟩)
  | s => s
def v_INVERSES : List (Key × D) := inlK [(2, (.tup [(.int 0), (.int 1)])), (3, (.tup [(.int 0), (.int 1), (.int 2)])), (5, (.tup [(.int 0), (.int 1), (.int 3), (.int 2), (.int 4)])), (7, (.tup [(.int 0), (.int 1), (.int 4), (.int 5), (.int 2), (.int 3), (.int 6)]))]
def su_BadRows : Str → Option Bool := suF [("BadRows", true), ("TooLarge", false)]
def su_StrikejoinError : Str → Option Bool := suF [("BadRows", true), ("TooLarge", true)]
def su_TooLarge : Str → Option Bool := suF [("BadRows", false), ("TooLarge", true)]
def su_ValueError : Str → Option Bool := suF [("BadRows", true), ("TooLarge", true)]
/-! Table: slots 0=self 1=prime 2=rows 3=row 4=digits 5=entry -/
noncomputable def B_Table (F : CI.Callee) : Mn Fl :=
    (cSeq (cIfS (cTst (cBin oNotIn (cVar 1) (cCst (.tup [(.int 2), (.int 3), (.int 5), (.int 7)]))))
    stk
    cPass)
    (cSeq (cIfS (cOr (cTst (cBin oEq (cBlt (uD gLen) (cCons (cA (cVar 2)) cNil)) (cCst (.int 0)))) (cTst (cBin oEq (cBlt (uD gLen) (cCons (cA (cBin ixD (cVar 2) (cCst (.int 0)))) cNil)) (cCst (.int 0)))))
    (cRse ("BadRows" : Str))
    cPass)
    (cSeq (cLock 2 (cFor (ciVar 2) (tNm 3)
    (cIfS (cTst (cBin oNe (cBlt (uD gLen) (cCons (cA (cVar 3)) cNil)) (cBlt (uD gLen) (cCons (cA (cBin ixD (cVar 2) (cCst (.int 0)))) cNil))))
    (cRse ("BadRows" : Str))
    cPass)))
    (cSeq (cIfS (cOr (cTst (cBin oGt (cBlt (uD gLen) (cCons (cA (cVar 2)) cNil)) (cCst (.int 10)))) (cTst (cBin oGt (cBlt (uD gLen) (cCons (cA (cBin ixD (cVar 2) (cCst (.int 0)))) cNil)) (cCst (.int 10)))))
    (cRse ("TooLarge" : Str))
    cPass)
    (cSeq (cFldS 0 ("Table" : Str) ("prime" : Str) (cFrz 1))
    (cSeq (cFldS 0 ("Table" : Str) ("size" : Str) (cBlt (uD gLen) (cCons (cA (cBin ixD (cVar 2) (cCst (.int 0)))) cNil)))
    (cSeq (cFldS 0 ("Table" : Str) ("rows" : Str) (cBlt (uD gTuple) (cCons (cA (cLock 2 (cLc (ciVar 2) (.nm 3) cYes (cBlt (uD gTuple) (cCons (cA (cLock 3 (cLc (ciVar 3) (.nm 5) cYes (cBin oMod (cVar 5) (cVar 1)) [5]))) cNil)) [3]))) cNil)))
    (cSeq (cSet 4 (cLc (ciSeq (cFld (["Table"] : List Str) ("rows" : Str) (cVar 0))) (.nm 3) cYes (cM1 joinD (cCst (.str "")) (cLock 3 (cLc (ciVar 3) (.nm 5) cYes (cBlt (uD gStr) (cCons (cA (cVar 5)) cNil)) [5]))) [3]))
    (cFldS 0 ("Table" : Str) ("text" : Str) (cBin oAdd (cFStr [(cFmt (cFld (["Table"] : List Str) ("prime" : Str) (cVar 0))), (cTxt (cCst (.str " "))), (cFmt (cFld (["Table"] : List Str) ("size" : Str) (cVar 0))), (cTxt (cCst (.str ": ")))]) (cM1 joinD (cCst (.str " ")) (cVar 4))))))))))))
noncomputable def FI_Table : FnI := ⟨3, 6, B_Table⟩
/-! _pivot: slots 0=rows 1=at 2=column 3=prime 4=inverse 5=main 6=found 7=index 8=row 9=factor 10=entry 11=own -/
noncomputable def B__pivot (F : CI.Callee) : Mn Fl :=
    (cSeq (cSet 4 (cBin ixD (cUn (wgetD v_INVERSES) (cVar 3)) (cBin ixD (cBin ixD (cVar 0) (cVar 1)) (cVar 2))))
    (cSeq (cSet 5 (cLc (ciSeq (cBin ixD (cVar 0) (cVar 1))) (.nm 10) cYes (cBin oMod (cBin oMul (cVar 10) (cVar 4)) (cVar 3)) [10]))
    (cSeq (cSet 6 (cLst cNil))
    (cSeq (cLock 0 (cFor (ciEnum (qV 0)) (tTup [(tNm 7), (tNm 8)])
    (cIfS (cTst (cBin oEq (cVar 7) (cVar 1)))
    (cApp 6 (cFrz 5))
    (cSeq (cSet 9 (cBin ixD (cVar 8) (cVar 2)))
    (cApp 6 (cLock 5 (cLock 8 (cLc (ciZip (qV 8) (qV 5)) (.tup [(.nm 10), (.nm 11)]) cYes (cBin oMod (cBin oSub (cVar 10) (cBin oMul (cVar 9) (cVar 11))) (cVar 3)) [10, 11]))))))))
    (cRet (cMv 6))))))
noncomputable def FI__pivot : FnI := ⟨4, 12, B__pivot⟩
/-! _lead_rows: slots 0=table 1=rows 2=leading 3=column 4=at 5=usable 6=row 7=index -/
noncomputable def B__lead_rows (F : CI.Callee) : Mn Fl :=
    (cSeq (cSet 1 (cLc (ciSeq (cFld (["Table"] : List Str) ("rows" : Str) (cVar 0))) (.nm 6) cYes (cBlt (uD gList) (cCons (cA (cVar 6)) cNil)) [6]))
    (cSeq (cSet 2 (cLst cNil))
    (cSeq (cFor (ciRg1 (cFld (["Table"] : List Str) ("size" : Str) (cVar 0))) (tNm 3)
    (cSeq (cSet 4 (cBlt (uD gLen) (cCons (cA (cVar 2)) cNil)))
    (cSeq (cSet 5 (cLc (ciRg2 (cVar 4) (cBlt (uD gLen) (cCons (cA (cVar 1)) cNil))) (.nm 7) (cTst (cBin oNe (cBin ixD (cBin ixD (cVar 1) (cVar 7)) (cVar 3)) (cCst (.int 0)))) (cFrz 7) [7]))
    (cIfS (cTst (cBin oNe (cVar 5) (cLst cNil)))
    (cSeq (cSetT (tTup [(tSub 1 (cVar 4)), (tSub 1 (cBin ixD (cVar 5) (cCst (.int 0))))]) (cV (cTup (cCons (cV (cBin ixD (cVar 1) (cBin ixD (cVar 5) (cCst (.int 0))))) (cCons (cV (cBin ixD (cVar 1) (cVar 4))) cNil)))))
    (cSeq (cSet 1 (cCall F ("_pivot" : Str) (cCons (cA (cVar 1)) (cCons (cA (cVar 4)) (cCons (cA (cVar 3)) (cCons (cA (cFld (["Table"] : List Str) ("prime" : Str) (cVar 0))) cNil))))))
    (cApp 2 (cFrz 3))))
    cPass))))
    (cRet (cTup (cCons (cV (cSl (cVar 1) cNoPart (cPart (cBlt (uD gLen) (cCons (cA (cVar 2)) cNil))))) (cCons (cV (cFrz 2)) cNil)))))))
noncomputable def FI__lead_rows : FnI := ⟨1, 8, B__lead_rows⟩
/-! _table_or_zeros: slots 0=table 1=rows -/
noncomputable def B__table_or_zeros (F : CI.Callee) : Mn Fl :=
    (cSeq (cIfS (cTst (cBin oEq (cVar 1) (cLst cNil)))
    (cRet (cCall F ("Table" : Str) (cCons (cA (cFld (["Table"] : List Str) ("prime" : Str) (cVar 0))) (cCons (cA (cLst (cCons (cV (cBin oMul (cLst (cCons (cV (cCst (.int 0))) cNil)) (cFld (["Table"] : List Str) ("size" : Str) (cVar 0)))) cNil))) cNil))))
    cPass)
    (cRet (cCall F ("Table" : Str) (cCons (cA (cFld (["Table"] : List Str) ("prime" : Str) (cVar 0))) (cCons (cA (cVar 1)) cNil)))))
noncomputable def FI__table_or_zeros : FnI := ⟨2, 2, B__table_or_zeros⟩
/-! reduced: slots 0=table 1=rows 2=_ -/
noncomputable def B_reduced (F : CI.Callee) : Mn Fl :=
    (cSeq (cSetT (tTup [(tNm 1), (tNm 2)]) (cV (cCall F ("_lead_rows" : Str) (cCons (cA (cVar 0)) cNil))))
    (cRet (cCall F ("_table_or_zeros" : Str) (cCons (cA (cVar 0)) (cCons (cA (cVar 1)) cNil)))))
noncomputable def FI_reduced : FnI := ⟨1, 3, B_reduced⟩
/-! words: slots 0=table 1=rows 2=_ 3=count 4=found 5=row 6=word 7=factor -/
noncomputable def B_words (F : CI.Callee) : Mn Fl :=
    (cSeq (cSetT (tTup [(tNm 1), (tNm 2)]) (cV (cCall F ("_lead_rows" : Str) (cCons (cA (cVar 0)) cNil))))
    (cSeq (cSet 3 (cCst (.int 1)))
    (cSeq (cLock 1 (cFor (ciVar 1) (tNm 2)
    (cSet 3 (cBin oMul (cVar 3) (cFld (["Table"] : List Str) ("prime" : Str) (cVar 0))))))
    (cSeq (cIfS (cTst (cBin oGt (cVar 3) (cCst (.int 2500))))
    (cRse ("TooLarge" : Str))
    cPass)
    (cSeq (cSet 4 (cLst (cCons (cV (cBin oMul (cTup (cCons (cV (cCst (.int 0))) cNil)) (cFld (["Table"] : List Str) ("size" : Str) (cVar 0)))) cNil)))
    (cSeq (cLock 1 (cFor (ciVar 1) (tNm 5)
    (cLock 4 (cSet 4 (cLc2 (ciVar 4) (.nm 6) cYes (ciRg1 (cFld (["Table"] : List Str) ("prime" : Str) (cVar 0))) (.nm 7) cYes (cCall F ("_plus" : Str) (cCons (cA (cVar 6)) (cCons (cA (cVar 5)) (cCons (cA (cVar 7)) (cCons (cA (cFld (["Table"] : List Str) ("prime" : Str) (cVar 0))) cNil))))) [6, 7] [7])))))
    (cRet (cBlt (uD gTuple) (cCons (cA (cBlt gSorted (cCons (cA (cVar 4)) cNil))) cNil)))))))))
noncomputable def FI_words : FnI := ⟨1, 8, B_words⟩
/-! _plus: slots 0=word 1=row 2=factor 3=prime 4=entry 5=own -/
noncomputable def B__plus (F : CI.Callee) : Mn Fl :=
    (cRet (cBlt (uD gTuple) (cCons (cA (cLock 1 (cLock 0 (cLc (ciZip (qV 0) (qV 1)) (.tup [(.nm 4), (.nm 5)]) cYes (cBin oMod (cBin oAdd (cVar 4) (cBin oMul (cVar 2) (cVar 5))) (cVar 3)) [4, 5])))) cNil)))
noncomputable def FI__plus : FnI := ⟨4, 6, B__plus⟩
/-! weight_counts: slots 0=table 1=counts 2=word 3=entry -/
noncomputable def B_weight_counts (F : CI.Callee) : Mn Fl :=
    (cSeq (cSet 1 (cBin oMul (cLst (cCons (cV (cCst (.int 0))) cNil)) (cBin oAdd (cFld (["Table"] : List Str) ("size" : Str) (cVar 0)) (cCst (.int 1)))))
    (cSeq (cFor (ciSeq (cCall F ("words" : Str) (cCons (cA (cVar 0)) cNil))) (tNm 2)
    (cAugIx augAdd 1 (cBlt (uD gLen) (cCons (cA (cLock 2 (cLc (ciVar 2) (.nm 3) (cTst (cBin oNe (cVar 3) (cCst (.int 0)))) (cFrz 3) [3]))) cNil)) (cCst (.int 1))))
    (cRet (cBlt (uD gTuple) (cCons (cA (cVar 1)) cNil)))))
noncomputable def FI_weight_counts : FnI := ⟨1, 4, B_weight_counts⟩
/-! _law_cell: slots 0=script 1=k -/
noncomputable def B__law_cell (F : CI.Callee) : Mn Fl :=
    (cSeq (cIfS (cTst (cBin oLt (cVar 1) (cBlt (uD gLen) (cCons (cA (cVar 0)) cNil))))
    (cRet (cBlt (uD gAbs) (cCons (cA (cBlt (uD gInt) (cCons (cA (cBin ixD (cVar 0) (cVar 1))) cNil))) cNil)))
    cPass)
    (cRet (cCst (.int 0))))
noncomputable def FI__law_cell : FnI := ⟨2, 2, B__law_cell⟩
/-! _law_alike: slots 0=told 1=due 2=k -/
noncomputable def B__law_alike (F : CI.Callee) : Mn Fl :=
    (cSeq (cIfS (cTr (cUn (gIsi "tuple") (cVar 1)))
    (cSeq (cIfS (cOr (cNot (cTr (cUn (gIsi "tuple") (cVar 0)))) (cTst (cBin oNe (cBlt (uD gLen) (cCons (cA (cVar 0)) cNil)) (cBlt (uD gLen) (cCons (cA (cVar 1)) cNil)))))
    (cRet (cCst (.bl false)))
    cPass)
    (cSeq (cFor (ciRg1 (cBlt (uD gLen) (cCons (cA (cVar 1)) cNil))) (tNm 2)
    (cIfS (cNot (cTr (cCall F ("_law_alike" : Str) (cCons (cA (cBin ixD (cVar 0) (cVar 2))) (cCons (cA (cBin ixD (cVar 1) (cVar 2))) cNil)))))
    (cRet (cCst (.bl false)))
    cPass))
    (cRet (cCst (.bl true)))))
    cPass)
    (cSeq (cIfS (cTr (cUn (gIsi "str") (cVar 1)))
    (cRet (cAndV (cUn (gIsi "str") (cVar 0)) (cBin oEq (cVar 0) (cVar 1))))
    cPass)
    (cSeq (cIfS (cTr (cUn (gIsi "bool") (cVar 1)))
    (cRet (cAndV (cUn (gIsi "bool") (cVar 0)) (cBin oEq (cVar 0) (cVar 1))))
    cPass)
    (cRet (cAndV (cUn (gIsi "int") (cVar 0)) (cAndV (cNotV (cUn (gIsi "bool") (cVar 0))) (cBin oEq (cVar 0) (cVar 1))))))))
noncomputable def FI__law_alike : FnI := ⟨2, 3, B__law_alike⟩
/-! _law_digits: slots 0=cell 1=base 2=count 3=digits 4=left 5=k -/
noncomputable def B__law_digits (F : CI.Callee) : Mn Fl :=
    (cSeq (cSet 3 (cLst cNil))
    (cSeq (cSet 4 (cBlt (uD gInt) (cCons (cA (cVar 0)) cNil)))
    (cSeq (cFor (ciRg1 (cVar 2)) (tNm 5)
    (cSeq (cApp 3 (cBin oMod (cBlt (uD gInt) (cCons (cA (cVar 4)) cNil)) (cVar 1)))
    (cSet 4 (cBin oFdiv (cVar 4) (cVar 1)))))
    (cRet (cMv 3)))))
noncomputable def FI__law_digits : FnI := ⟨3, 6, B__law_digits⟩
/-! _law_bit: slots 0=at 1=column -/
noncomputable def B__law_bit (F : CI.Callee) : Mn Fl :=
    (cSeq (cIfS (cTst (cBin oGt (cVar 0) (cCst (.int 3))))
    (cRet (cCst (.int 0)))
    cPass)
    (cRet (cBin oMod (cBin oFdiv (cBlt (uD gInt) (cCons (cA (cBin oAdd (cVar 1) (cCst (.int 1)))) cNil)) (cBin ixD (cLst (cCons (cV (cCst (.int 1))) (cCons (cV (cCst (.int 2))) (cCons (cV (cCst (.int 4))) (cCons (cV (cCst (.int 8))) cNil))))) (cVar 0))) (cCst (.int 2)))))
noncomputable def FI__law_bit : FnI := ⟨2, 2, B__law_bit⟩
/-! _law_drawn: slots 0=cell 1=at 2=prime 3=size 4=digits 5=k -/
noncomputable def B__law_drawn (F : CI.Callee) : Mn Fl :=
    (cSeq (cSet 4 (cCall F ("_law_digits" : Str) (cCons (cA (cVar 0)) (cCons (cA (cVar 2)) (cCons (cA (cVar 3)) cNil)))))
    (cRet (cLc (ciRg1 (cVar 3)) (.nm 5) cYes (cBin oMod (cBlt (uD gInt) (cCons (cA (cBin oAdd (cBin ixD (cVar 4) (cVar 5)) (cCall F ("_law_bit" : Str) (cCons (cA (cVar 1)) (cCons (cA (cVar 5)) cNil))))) cNil)) (cVar 2)) [5])))
noncomputable def FI__law_drawn : FnI := ⟨4, 6, B__law_drawn⟩
/-! _law_wide: slots 0=cell 1=at 2=prime 3=size 4=digits 5=k -/
noncomputable def B__law_wide (F : CI.Callee) : Mn Fl :=
    (cSeq (cSet 4 (cCall F ("_law_digits" : Str) (cCons (cA (cVar 0)) (cCons (cA (cVar 2)) (cCons (cA (cVar 3)) cNil)))))
    (cRet (cLc (ciRg1 (cVar 3)) (.nm 5) cYes (cBin oMod (cBlt (uD gInt) (cCons (cA (cBin oAdd (cBin ixD (cVar 4) (cVar 5)) (cBlt (uD gInt) (cCons (cA (cBin oEq (cVar 5) (cVar 1))) cNil)))) cNil)) (cVar 2)) [5])))
noncomputable def FI__law_wide : FnI := ⟨4, 6, B__law_wide⟩
/-! _law_list: slots 0=script 1=head 2=cell 3=prime 4=count 5=size 6=cells 7=rows 8=k -/
noncomputable def B__law_list (F : CI.Callee) : Mn Fl :=
    (cSeq (cSet 1 (cCall F ("_law_cell" : Str) (cCons (cA (cVar 0)) (cCons (cA (cCst (.int 0))) cNil))))
    (cSeq (cSet 2 (cCall F ("_law_cell" : Str) (cCons (cA (cVar 0)) (cCons (cA (cCst (.int 11))) cNil))))
    (cSeq (cSet 3 (cBin ixD (cLst (cCons (cV (cCst (.int 2))) (cCons (cV (cCst (.int 3))) (cCons (cV (cCst (.int 5))) cNil)))) (cBin oMod (cBlt (uD gInt) (cCons (cA (cVar 2)) cNil)) (cCst (.int 3)))))
    (cSeq (cSet 4 (cBin oAdd (cCst (.int 1)) (cBin oMod (cBlt (uD gInt) (cCons (cA (cBin oAdd (cBin oFdiv (cVar 1) (cCst (.int 8))) (cCst (.int 2)))) cNil)) (cCst (.int 4)))))
    (cSeq (cSet 5 (cBin oAdd (cCst (.int 1)) (cBin oMod (cBlt (uD gInt) (cCons (cA (cBin oAdd (cBin oFdiv (cVar 1) (cCst (.int 32))) (cCst (.int 4)))) cNil)) (cCst (.int 6)))))
    (cSeq (cSet 6 (cLc (ciRg1 (cCst (.int 10))) (.nm 8) cYes (cCall F ("_law_cell" : Str) (cCons (cA (cVar 0)) (cCons (cA (cBin oAdd (cCst (.int 1)) (cVar 8))) cNil))) [8]))
    (cSeq (cIfS (cTst (cBin oEq (cBin oMod (cBlt (uD gInt) (cCons (cA (cVar 1)) cNil)) (cCst (.int 8))) (cCst (.int 7))))
    (cSeq (cSet 3 (cBin ixD (cLst (cCons (cV (cCst (.int 7))) (cCons (cV (cCst (.int 3))) (cCons (cV (cCst (.int 2))) (cCons (cV (cCst (.int 5))) cNil))))) (cBin oMod (cBlt (uD gInt) (cCons (cA (cVar 2)) cNil)) (cCst (.int 4)))))
    (cSeq (cSet 4 (cBin ixD (cLst (cCons (cV (cCst (.int 4))) (cCons (cV (cCst (.int 7))) (cCons (cV (cCst (.int 10))) (cCons (cV (cCst (.int 5))) cNil))))) (cBin oMod (cBlt (uD gInt) (cCons (cA (cVar 2)) cNil)) (cCst (.int 4)))))
    (cSet 5 (cBin oAdd (cCst (.int 9)) (cBin oMod (cBlt (uD gInt) (cCons (cA (cBin oAdd (cBin oFdiv (cVar 2) (cCst (.int 4))) (cCst (.int 1)))) cNil)) (cCst (.int 2)))))))
    cPass)
    (cSeq (cSet 7 (cLst cNil))
    (cSeq (cFor (ciRg1 (cVar 4)) (tNm 8)
    (cIfS (cTst (cBin oGt (cVar 5) (cCst (.int 6))))
    (cApp 7 (cCall F ("_law_wide" : Str) (cCons (cA (cBin ixD (cVar 6) (cVar 8))) (cCons (cA (cVar 8)) (cCons (cA (cVar 3)) (cCons (cA (cVar 5)) cNil))))))
    (cApp 7 (cCall F ("_law_drawn" : Str) (cCons (cA (cBin ixD (cVar 6) (cVar 8))) (cCons (cA (cVar 8)) (cCons (cA (cVar 3)) (cCons (cA (cVar 5)) cNil))))))))
    (cRet (cTup (cCons (cV (cFrz 3)) (cCons (cV (cFrz 7)) cNil)))))))))))))
noncomputable def FI__law_list : FnI := ⟨1, 9, B__law_list⟩
/-! _law_plus: slots 0=word 1=times 2=row 3=p 4=size 5=k -/
noncomputable def B__law_plus (F : CI.Callee) : Mn Fl :=
    (cSeq (cSet 4 (cBlt (uD gLen) (cCons (cA (cVar 2)) cNil)))
    (cRet (cBlt (uD gTuple) (cCons (cA (cLc (ciRg1 (cVar 4)) (.nm 5) cYes (cBin oMod (cBlt (uD gInt) (cCons (cA (cBin oAdd (cBin ixD (cVar 0) (cVar 5)) (cBin oMul (cVar 1) (cBin ixD (cVar 2) (cVar 5))))) cNil)) (cVar 3)) [5])) cNil))))
noncomputable def FI__law_plus : FnI := ⟨4, 6, B__law_plus⟩
/-! _law_span: slots 0=rows 1=prime 2=found 3=row 4=grown 5=times 6=word -/
noncomputable def B__law_span (F : CI.Callee) : Mn Fl :=
    (cSeq (cSet 2 (cLst (cCons (cV (cBin oMul (cTup (cCons (cV (cCst (.int 0))) cNil)) (cBlt (uD gLen) (cCons (cA (cBin ixD (cVar 0) (cCst (.int 0)))) cNil)))) cNil)))
    (cSeq (cLock 0 (cFor (ciVar 0) (tNm 3)
    (cIfS (cTst (cBin oNotIn (cBlt (uD gTuple) (cCons (cA (cVar 3)) cNil)) (cVar 2)))
    (cSeq (cIfS (cTst (cBin oGt (cBin oMul (cBlt (uD gLen) (cCons (cA (cVar 2)) cNil)) (cVar 1)) (cCst (.int 2500))))
    (cRet (cTup cNil))
    cPass)
    (cSeq (cSet 4 (cLst cNil))
    (cSeq (cFor (ciRg1 (cVar 1)) (tNm 5)
    (cLock 2 (cFor (ciVar 2) (tNm 6)
    (cApp 4 (cCall F ("_law_plus" : Str) (cCons (cA (cVar 6)) (cCons (cA (cVar 5)) (cCons (cA (cVar 3)) (cCons (cA (cVar 1)) cNil)))))))))
    (cSet 2 (cBlt (uD gList) (cCons (cA (cVar 4)) cNil))))))
    cPass)))
    (cRet (cBlt (uD gTuple) (cCons (cA (cBlt gSorted (cCons (cA (cVar 2)) cNil))) cNil)))))
noncomputable def FI__law_span : FnI := ⟨2, 7, B__law_span⟩
/-! _law_same: slots 0=told 1=due 2=k 3=word 4=entry -/
noncomputable def B__law_same (F : CI.Callee) : Mn Fl :=
    (cSeq (cIfS (cOr (cNot (cTr (cUn (gIsi "tuple") (cVar 0)))) (cTst (cBin oNe (cBlt (uD gLen) (cCons (cA (cVar 0)) cNil)) (cBlt (uD gLen) (cCons (cA (cVar 1)) cNil)))))
    (cRet (cCst (.bl false)))
    cPass)
    (cSeq (cFor (ciRg1 (cBlt (uD gLen) (cCons (cA (cVar 1)) cNil))) (tNm 2)
    (cSeq (cSet 3 (cBin ixD (cVar 0) (cVar 2)))
    (cSeq (cIfS (cOr (cNot (cTr (cUn (gIsi "tuple") (cVar 3)))) (cTst (cBin oNe (cVar 3) (cBin ixD (cVar 1) (cVar 2)))))
    (cRet (cCst (.bl false)))
    cPass)
    (cLock 3 (cFor (ciVar 3) (tNm 4)
    (cIfS (cOr (cNot (cTr (cUn (gIsi "int") (cVar 4)))) (cTr (cUn (gIsi "bool") (cVar 4))))
    (cRet (cCst (.bl false)))
    cPass))))))
    (cRet (cCst (.bl true)))))
noncomputable def FI__law_same : FnI := ⟨2, 5, B__law_same⟩
/-! _law_counts: slots 0=due 1=size 2=counts 3=word 4=spot 5=entry -/
noncomputable def B__law_counts (F : CI.Callee) : Mn Fl :=
    (cSeq (cSet 2 (cBin oMul (cLst (cCons (cV (cCst (.int 0))) cNil)) (cBin oAdd (cVar 1) (cCst (.int 1)))))
    (cSeq (cLock 0 (cFor (ciVar 0) (tNm 3)
    (cSeq (cSet 4 (cBlt (uD gLen) (cCons (cA (cLock 3 (cLc (ciVar 3) (.nm 5) (cTst (cBin oNe (cVar 5) (cCst (.int 0)))) (cFrz 5) [5]))) cNil)))
    (cSetT (tSub 2 (cVar 4)) (cV (cBin oAdd (cBin ixD (cVar 2) (cVar 4)) (cCst (.int 1))))))))
    (cRet (cBlt (uD gTuple) (cCons (cA (cVar 2)) cNil)))))
noncomputable def FI__law_counts : FnI := ⟨2, 6, B__law_counts⟩
/-! _law_fate: slots 0=table 1=counted 2=e -/
noncomputable def B__law_fate (F : CI.Callee) : Mn Fl :=
    (cSeq (cTry (cIfS (cTr (cVar 1))
    (cExpr (cCall F ("weight_counts" : Str) (cCons (cA (cVar 0)) cNil)))
    (cExpr (cCall F ("words" : Str) (cCons (cA (cVar 0)) cNil)))) su_StrikejoinError 2
    (cSeq (cIfS (cAnd (cTr (cIsE 2 su_TooLarge)) (cAnd (cTr (cIsE 2 su_ValueError)) (cNot (cTr (cIsE 2 su_BadRows)))))
    (cRet (cTup (cCons (cV (cCst (.str "large"))) cNil)))
    cPass)
    (cRet (cTup (cCons (cV (cCst (.str "other"))) cNil)))))
    (cRet (cTup (cCons (cV (cCst (.str "told"))) cNil))))
noncomputable def FI__law_fate : FnI := ⟨2, 3, B__law_fate⟩
/-! _law_refused: slots 0=table -/
noncomputable def B__law_refused (F : CI.Callee) : Mn Fl :=
    (cSeq (cIfS (cNot (cTr (cCall F ("_law_alike" : Str) (cCons (cA (cCall F ("_law_fate" : Str) (cCons (cA (cVar 0)) (cCons (cA (cCst (.bl false))) cNil)))) (cCons (cA (cTup (cCons (cV (cCst (.str "large"))) cNil))) cNil)))))
    (cRet (cCst (.bl false)))
    cPass)
    (cRet (cCall F ("_law_alike" : Str) (cCons (cA (cCall F ("_law_fate" : Str) (cCons (cA (cVar 0)) (cCons (cA (cCst (.bl true))) cNil)))) (cCons (cA (cTup (cCons (cV (cCst (.str "large"))) cNil))) cNil)))))
noncomputable def FI__law_refused : FnI := ⟨1, 1, B__law_refused⟩
/-! _law_holds: slots 0=prime 1=rows 2=table 3=size 4=due 5=row -/
noncomputable def B__law_holds (F : CI.Callee) : Mn Fl :=
    (cSeq (cSet 2 (cCall F ("Table" : Str) (cCons (cA (cFrz 0)) (cCons (cA (cLock 1 (cLc (ciVar 1) (.nm 5) cYes (cBlt (uD gList) (cCons (cA (cVar 5)) cNil)) [5]))) cNil))))
    (cSeq (cSet 3 (cBlt (uD gLen) (cCons (cA (cBin ixD (cVar 1) (cCst (.int 0)))) cNil)))
    (cSeq (cSet 4 (cCall F ("_law_span" : Str) (cCons (cA (cVar 1)) (cCons (cA (cVar 0)) cNil))))
    (cSeq (cIfS (cTst (cBin oEq (cVar 4) (cTup cNil)))
    (cRet (cCall F ("_law_refused" : Str) (cCons (cA (cVar 2)) cNil)))
    cPass)
    (cSeq (cIfS (cNot (cTr (cCall F ("_law_same" : Str) (cCons (cA (cCall F ("words" : Str) (cCons (cA (cVar 2)) cNil))) (cCons (cA (cVar 4)) cNil)))))
    (cRet (cCst (.bl false)))
    cPass)
    (cSeq (cIfS (cNot (cTr (cCall F ("_law_alike" : Str) (cCons (cA (cCall F ("weight_counts" : Str) (cCons (cA (cVar 2)) cNil))) (cCons (cA (cCall F ("_law_counts" : Str) (cCons (cA (cVar 4)) (cCons (cA (cVar 3)) cNil)))) cNil)))))
    (cRet (cCst (.bl false)))
    cPass)
    (cSeq (cIfS (cNot (cTr (cCall F ("_law_alike" : Str) (cCons (cA (cFld (["Table"] : List Str) ("rows" : Str) (cVar 2))) (cCons (cA (cBlt (uD gTuple) (cCons (cA (cLock 1 (cLc (ciVar 1) (.nm 5) cYes (cBlt (uD gTuple) (cCons (cA (cVar 5)) cNil)) [5]))) cNil))) cNil)))))
    (cRet (cCst (.bl false)))
    cPass)
    (cSeq (cIfS (cTst (cBin oGt (cBlt (uD gLen) (cCons (cA (cVar 4)) cNil)) (cCst (.int 700))))
    (cRet (cCst (.bl true)))
    cPass)
    (cSeq (cIfS (cNot (cTr (cCall F ("_law_same" : Str) (cCons (cA (cCall F ("words" : Str) (cCons (cA (cCall F ("reduced" : Str) (cCons (cA (cVar 2)) cNil))) cNil))) (cCons (cA (cVar 4)) cNil)))))
    (cRet (cCst (.bl false)))
    cPass)
    (cRet (cCall F ("_law_same" : Str) (cCons (cA (cCall F ("words" : Str) (cCons (cA (cVar 2)) cNil))) (cCons (cA (cVar 4)) cNil)))))))))))))
noncomputable def FI__law_holds : FnI := ⟨2, 6, B__law_holds⟩
/-! _law_just_over: slots 0=size 1=pick 2=prime 3=count 4=wide 5=rows 6=k -/
noncomputable def B__law_just_over (F : CI.Callee) : Mn Fl :=
    (cSeq (cSetT (tTup [(tNm 2), (tNm 3)]) (cV (cBin ixD (cLst (cCons (cV (cTup (cCons (cV (cCst (.int 3))) (cCons (cV (cCst (.int 8))) cNil)))) (cCons (cV (cTup (cCons (cV (cCst (.int 5))) (cCons (cV (cCst (.int 5))) cNil)))) (cCons (cV (cTup (cCons (cV (cCst (.int 7))) (cCons (cV (cCst (.int 5))) cNil)))) cNil)))) (cVar 1))))
    (cSeq (cSet 4 (cBlt (bD gMax2) (cCons (cA (cVar 0)) (cCons (cA (cVar 3)) cNil))))
    (cSeq (cSet 5 (cLc (ciRg1 (cVar 3)) (.nm 6) cYes (cCall F ("_law_wide" : Str) (cCons (cA (cCst (.int 0))) (cCons (cA (cVar 6)) (cCons (cA (cVar 2)) (cCons (cA (cVar 4)) cNil))))) [6]))
    (cRet (cCall F ("_law_refused" : Str) (cCons (cA (cCall F ("Table" : Str) (cCons (cA (cFrz 2)) (cCons (cA (cVar 5)) cNil)))) cNil))))))
noncomputable def FI__law_just_over : FnI := ⟨2, 7, B__law_just_over⟩
/-! law: slots 0=script 1=prime 2=rows 3=size 4=cell 5=many 6=k 7=entry -/
noncomputable def B_law (F : CI.Callee) : Mn Fl :=
    (cSeq (cSetT (tTup [(tNm 1), (tNm 2)]) (cV (cCall F ("_law_list" : Str) (cCons (cA (cVar 0)) cNil))))
    (cSeq (cIfS (cNot (cTr (cCall F ("_law_holds" : Str) (cCons (cA (cFrz 1)) (cCons (cA (cVar 2)) cNil)))))
    (cRet (cCst (.bl false)))
    cPass)
    (cSeq (cSet 3 (cBlt (uD gLen) (cCons (cA (cBin ixD (cVar 2) (cCst (.int 0)))) cNil)))
    (cSeq (cSet 4 (cCall F ("_law_cell" : Str) (cCons (cA (cVar 0)) (cCons (cA (cCst (.int 12))) cNil))))
    (cSeq (cSet 5 (cLst cNil))
    (cSeq (cFor (ciRg1 (cCst (.int 5))) (tNm 6)
    (cApp 5 (cLc (ciSeq (cBin ixD (cVar 2) (cCst (.int 0)))) (.nm 7) cYes (cBin oMod (cBlt (uD gInt) (cCons (cA (cBin oMul (cBin oAdd (cBin oAdd (cVar 6) (cCst (.int 1))) (cVar 4)) (cVar 7))) cNil)) (cCst (.int 5))) [7])))
    (cSeq (cIfS (cOr (cNot (cTr (cCall F ("_law_holds" : Str) (cCons (cA (cCst (.int 5))) (cCons (cA (cVar 5)) cNil))))) (cNot (cTr (cCall F ("_law_holds" : Str) (cCons (cA (cFrz 1)) (cCons (cA (cLst (cCons (cV (cBin oMul (cLst (cCons (cV (cCst (.int 0))) cNil)) (cVar 3))) cNil))) cNil))))))
    (cRet (cCst (.bl false)))
    cPass)
    (cRet (cCall F ("_law_just_over" : Str) (cCons (cA (cVar 3)) (cCons (cA (cBin oMod (cBlt (uD gInt) (cCons (cA (cBin oFdiv (cVar 4) (cCst (.int 5)))) cNil)) (cCst (.int 3)))) cNil)))))))))))
noncomputable def FI_law : FnI := ⟨1, 8, B_law⟩
noncomputable def tb (x : Str) : Option Ent :=
  if x = ("Table" : Str) then some (.init FI_Table) else
  if x = ("_pivot" : Str) then some (.fn FI__pivot) else
  if x = ("_lead_rows" : Str) then some (.fn FI__lead_rows) else
  if x = ("_table_or_zeros" : Str) then some (.fn FI__table_or_zeros) else
  if x = ("reduced" : Str) then some (.fn FI_reduced) else
  if x = ("words" : Str) then some (.fn FI_words) else
  if x = ("_plus" : Str) then some (.fn FI__plus) else
  if x = ("weight_counts" : Str) then some (.fn FI_weight_counts) else
  if x = ("_law_cell" : Str) then some (.fn FI__law_cell) else
  if x = ("_law_alike" : Str) then some (.fn FI__law_alike) else
  if x = ("_law_digits" : Str) then some (.fn FI__law_digits) else
  if x = ("_law_bit" : Str) then some (.fn FI__law_bit) else
  if x = ("_law_drawn" : Str) then some (.fn FI__law_drawn) else
  if x = ("_law_wide" : Str) then some (.fn FI__law_wide) else
  if x = ("_law_list" : Str) then some (.fn FI__law_list) else
  if x = ("_law_plus" : Str) then some (.fn FI__law_plus) else
  if x = ("_law_span" : Str) then some (.fn FI__law_span) else
  if x = ("_law_same" : Str) then some (.fn FI__law_same) else
  if x = ("_law_counts" : Str) then some (.fn FI__law_counts) else
  if x = ("_law_fate" : Str) then some (.fn FI__law_fate) else
  if x = ("_law_refused" : Str) then some (.fn FI__law_refused) else
  if x = ("_law_holds" : Str) then some (.fn FI__law_holds) else
  if x = ("_law_just_over" : Str) then some (.fn FI__law_just_over) else
  if x = ("law" : Str) then some (.fn FI_law) else
  none
theorem tb_Table : tb ("Table" : Str) = some (.init FI_Table) := by unfold tb; repeat (first | rw [if_pos rfl] | rw [if_neg (by decide +kernel)])
theorem tb__pivot : tb ("_pivot" : Str) = some (.fn FI__pivot) := by unfold tb; repeat (first | rw [if_pos rfl] | rw [if_neg (by decide +kernel)])
theorem tb__lead_rows : tb ("_lead_rows" : Str) = some (.fn FI__lead_rows) := by unfold tb; repeat (first | rw [if_pos rfl] | rw [if_neg (by decide +kernel)])
theorem tb__table_or_zeros : tb ("_table_or_zeros" : Str) = some (.fn FI__table_or_zeros) := by unfold tb; repeat (first | rw [if_pos rfl] | rw [if_neg (by decide +kernel)])
theorem tb_reduced : tb ("reduced" : Str) = some (.fn FI_reduced) := by unfold tb; repeat (first | rw [if_pos rfl] | rw [if_neg (by decide +kernel)])
theorem tb_words : tb ("words" : Str) = some (.fn FI_words) := by unfold tb; repeat (first | rw [if_pos rfl] | rw [if_neg (by decide +kernel)])
theorem tb__plus : tb ("_plus" : Str) = some (.fn FI__plus) := by unfold tb; repeat (first | rw [if_pos rfl] | rw [if_neg (by decide +kernel)])
theorem tb_weight_counts : tb ("weight_counts" : Str) = some (.fn FI_weight_counts) := by unfold tb; repeat (first | rw [if_pos rfl] | rw [if_neg (by decide +kernel)])
theorem tb__law_cell : tb ("_law_cell" : Str) = some (.fn FI__law_cell) := by unfold tb; repeat (first | rw [if_pos rfl] | rw [if_neg (by decide +kernel)])
theorem tb__law_alike : tb ("_law_alike" : Str) = some (.fn FI__law_alike) := by unfold tb; repeat (first | rw [if_pos rfl] | rw [if_neg (by decide +kernel)])
theorem tb__law_digits : tb ("_law_digits" : Str) = some (.fn FI__law_digits) := by unfold tb; repeat (first | rw [if_pos rfl] | rw [if_neg (by decide +kernel)])
theorem tb__law_bit : tb ("_law_bit" : Str) = some (.fn FI__law_bit) := by unfold tb; repeat (first | rw [if_pos rfl] | rw [if_neg (by decide +kernel)])
theorem tb__law_drawn : tb ("_law_drawn" : Str) = some (.fn FI__law_drawn) := by unfold tb; repeat (first | rw [if_pos rfl] | rw [if_neg (by decide +kernel)])
theorem tb__law_wide : tb ("_law_wide" : Str) = some (.fn FI__law_wide) := by unfold tb; repeat (first | rw [if_pos rfl] | rw [if_neg (by decide +kernel)])
theorem tb__law_list : tb ("_law_list" : Str) = some (.fn FI__law_list) := by unfold tb; repeat (first | rw [if_pos rfl] | rw [if_neg (by decide +kernel)])
theorem tb__law_plus : tb ("_law_plus" : Str) = some (.fn FI__law_plus) := by unfold tb; repeat (first | rw [if_pos rfl] | rw [if_neg (by decide +kernel)])
theorem tb__law_span : tb ("_law_span" : Str) = some (.fn FI__law_span) := by unfold tb; repeat (first | rw [if_pos rfl] | rw [if_neg (by decide +kernel)])
theorem tb__law_same : tb ("_law_same" : Str) = some (.fn FI__law_same) := by unfold tb; repeat (first | rw [if_pos rfl] | rw [if_neg (by decide +kernel)])
theorem tb__law_counts : tb ("_law_counts" : Str) = some (.fn FI__law_counts) := by unfold tb; repeat (first | rw [if_pos rfl] | rw [if_neg (by decide +kernel)])
theorem tb__law_fate : tb ("_law_fate" : Str) = some (.fn FI__law_fate) := by unfold tb; repeat (first | rw [if_pos rfl] | rw [if_neg (by decide +kernel)])
theorem tb__law_refused : tb ("_law_refused" : Str) = some (.fn FI__law_refused) := by unfold tb; repeat (first | rw [if_pos rfl] | rw [if_neg (by decide +kernel)])
theorem tb__law_holds : tb ("_law_holds" : Str) = some (.fn FI__law_holds) := by unfold tb; repeat (first | rw [if_pos rfl] | rw [if_neg (by decide +kernel)])
theorem tb__law_just_over : tb ("_law_just_over" : Str) = some (.fn FI__law_just_over) := by unfold tb; repeat (first | rw [if_pos rfl] | rw [if_neg (by decide +kernel)])
theorem tb_law : tb ("law" : Str) = some (.fn FI_law) := by unfold tb; repeat (first | rw [if_pos rfl] | rw [if_neg (by decide +kernel)])
structure Fx (P : Program) (w : World) (K : PySem.W.Frag) (mg : Str → Option Value) (base : Heap) (n : Nat) : Prop where
  c__law_list : ∀ A, Room (2 * n + 1) A → COk ⟨P, w, K, mg, base, A⟩ ("_law_list" : Str) (callF tb n ("_law_list" : Str)) 1
  c__law_holds : ∀ A, Room (2 * n + 1) A → COk ⟨P, w, K, mg, base, A⟩ ("_law_holds" : Str) (callF tb n ("_law_holds" : Str)) 2
  b_len : mg ("len" : Str) = none
  c__law_cell : ∀ A, Room (2 * n + 1) A → COk ⟨P, w, K, mg, base, A⟩ ("_law_cell" : Str) (callF tb n ("_law_cell" : Str)) 2
  b_range : mg ("range" : Str) = none
  b_int : mg ("int" : Str) = none
  c__law_just_over : ∀ A, Room (2 * n + 1) A → COk ⟨P, w, K, mg, base, A⟩ ("_law_just_over" : Str) (callF tb n ("_law_just_over" : Str)) 2
  c__law_wide : ∀ A, Room (2 * n + 1) A → COk ⟨P, w, K, mg, base, A⟩ ("_law_wide" : Str) (callF tb n ("_law_wide" : Str)) 4
  c__law_drawn : ∀ A, Room (2 * n + 1) A → COk ⟨P, w, K, mg, base, A⟩ ("_law_drawn" : Str) (callF tb n ("_law_drawn" : Str)) 4
  b_list : mg ("list" : Str) = none
  m_Table : ∀ A, Room (2 * n + 1) A → MOk ⟨P, w, K, mg, base, A⟩ ("Table" : Str) (callF tb n ("Table" : Str)) 2
  c__law_span : ∀ A, Room (2 * n + 1) A → COk ⟨P, w, K, mg, base, A⟩ ("_law_span" : Str) (callF tb n ("_law_span" : Str)) 2
  c__law_refused : ∀ A, Room (2 * n + 1) A → COk ⟨P, w, K, mg, base, A⟩ ("_law_refused" : Str) (callF tb n ("_law_refused" : Str)) 1
  c_words : ∀ A, Room (2 * n + 1) A → COk ⟨P, w, K, mg, base, A⟩ ("words" : Str) (callF tb n ("words" : Str)) 1
  c__law_same : ∀ A, Room (2 * n + 1) A → COk ⟨P, w, K, mg, base, A⟩ ("_law_same" : Str) (callF tb n ("_law_same" : Str)) 2
  c__law_counts : ∀ A, Room (2 * n + 1) A → COk ⟨P, w, K, mg, base, A⟩ ("_law_counts" : Str) (callF tb n ("_law_counts" : Str)) 2
  c_weight_counts : ∀ A, Room (2 * n + 1) A → COk ⟨P, w, K, mg, base, A⟩ ("weight_counts" : Str) (callF tb n ("weight_counts" : Str)) 1
  c__law_alike : ∀ A, Room (2 * n + 1) A → COk ⟨P, w, K, mg, base, A⟩ ("_law_alike" : Str) (callF tb n ("_law_alike" : Str)) 2
  b_tuple : mg ("tuple" : Str) = none
  o_rows : ∀ A, FOk ⟨P, w, K, mg, base, A⟩ (["Table"] : List Str) ("rows" : Str)
  c_reduced : ∀ A, Room (2 * n + 1) A → COk ⟨P, w, K, mg, base, A⟩ ("reduced" : Str) (callF tb n ("reduced" : Str)) 1
  b_abs : mg ("abs" : Str) = none
  b_max : mg ("max" : Str) = none
  c__law_digits : ∀ A, Room (2 * n + 1) A → COk ⟨P, w, K, mg, base, A⟩ ("_law_digits" : Str) (callF tb n ("_law_digits" : Str)) 3
  c__law_bit : ∀ A, Room (2 * n + 1) A → COk ⟨P, w, K, mg, base, A⟩ ("_law_bit" : Str) (callF tb n ("_law_bit" : Str)) 2
  k_PRIMES : ∃ u v, mg ("PRIMES" : Str) = some u ∧ RelV v u ∧ ∀ Z, Rep ⟨K, mg, none⟩ Z (.tup [(.int 2), (.int 3), (.int 5), (.int 7)]) v
  e_BadRows : ∀ A, EOk ⟨P, w, K, mg, base, A⟩ ("BadRows" : Str)
  g_BadRows : mg ("BadRows" : Str) = some (.ref (He.ga K ("BadRows" : Str)))
  k_MOST_ROWS : ∃ u v, mg ("MOST_ROWS" : Str) = some u ∧ RelV v u ∧ ∀ Z, Rep ⟨K, mg, none⟩ Z (.int 10) v
  k_MOST_COLUMNS : ∃ u v, mg ("MOST_COLUMNS" : Str) = some u ∧ RelV v u ∧ ∀ Z, Rep ⟨K, mg, none⟩ Z (.int 10) v
  e_TooLarge : ∀ A, EOk ⟨P, w, K, mg, base, A⟩ ("TooLarge" : Str)
  g_TooLarge : mg ("TooLarge" : Str) = some (.ref (He.ga K ("TooLarge" : Str)))
  p_Table_prime : ∀ A, FOk ⟨P, w, K, mg, base, A⟩ [("Table" : Str)] ("prime" : Str)
  p_Table_size : ∀ A, FOk ⟨P, w, K, mg, base, A⟩ [("Table" : Str)] ("size" : Str)
  p_Table_rows : ∀ A, FOk ⟨P, w, K, mg, base, A⟩ [("Table" : Str)] ("rows" : Str)
  b_str : mg ("str" : Str) = none
  p_Table_text : ∀ A, FOk ⟨P, w, K, mg, base, A⟩ [("Table" : Str)] ("text" : Str)
  o_prime : ∀ A, FOk ⟨P, w, K, mg, base, A⟩ (["Table"] : List Str) ("prime" : Str)
  o_size : ∀ A, FOk ⟨P, w, K, mg, base, A⟩ (["Table"] : List Str) ("size" : Str)
  c__law_plus : ∀ A, Room (2 * n + 1) A → COk ⟨P, w, K, mg, base, A⟩ ("_law_plus" : Str) (callF tb n ("_law_plus" : Str)) 4
  b_sorted : mg ("sorted" : Str) = none
  c__law_fate : ∀ A, Room (2 * n + 1) A → COk ⟨P, w, K, mg, base, A⟩ ("_law_fate" : Str) (callF tb n ("_law_fate" : Str)) 2
  c__lead_rows : ∀ A, Room (2 * n + 1) A → COk ⟨P, w, K, mg, base, A⟩ ("_lead_rows" : Str) (callF tb n ("_lead_rows" : Str)) 1
  k_MOST_WORDS : ∃ u v, mg ("MOST_WORDS" : Str) = some u ∧ RelV v u ∧ ∀ Z, Rep ⟨K, mg, none⟩ Z (.int 2500) v
  c__plus : ∀ A, Room (2 * n + 1) A → COk ⟨P, w, K, mg, base, A⟩ ("_plus" : Str) (callF tb n ("_plus" : Str)) 4
  b_isinstance : mg ("isinstance" : Str) = none
  b_bool : mg ("bool" : Str) = none
  c__table_or_zeros : ∀ A, Room (2 * n + 1) A → COk ⟨P, w, K, mg, base, A⟩ ("_table_or_zeros" : Str) (callF tb n ("_table_or_zeros" : Str)) 2
  g_StrikejoinError : mg ("StrikejoinError" : Str) = some (.ref (He.ga K ("StrikejoinError" : Str)))
  s_StrikejoinError : ∀ A, SubOk ⟨P, w, K, mg, base, A⟩ (Cn.v K (.own ("StrikejoinError" : Str))) su_StrikejoinError
  i_TooLarge : ∀ A, IsEOk ⟨P, w, K, mg, base, A⟩ (Cn.v K (.own ("TooLarge" : Str))) su_TooLarge
  i_ValueError : ∀ A, IsEOk ⟨P, w, K, mg, base, A⟩ (Cn.v K (.ty "ValueError")) su_ValueError
  b_ValueError : mg ("ValueError" : Str) = none
  i_BadRows : ∀ A, IsEOk ⟨P, w, K, mg, base, A⟩ (Cn.v K (.own ("BadRows" : Str))) su_BadRows
  c__pivot : ∀ A, Room (2 * n + 1) A → COk ⟨P, w, K, mg, base, A⟩ ("_pivot" : Str) (callF tb n ("_pivot" : Str)) 4
  b_zip : mg ("zip" : Str) = none
  d_INVERSES : ∀ A, WDct ⟨P, w, K, mg, base, A⟩ ("INVERSES" : Str) v_INVERSES
  b_enumerate : mg ("enumerate" : Str) = none
section
variable {P : Program} {w : World} {K : PySem.W.Frag} {mg : Str → Option Value} {base : Heap} {n : Nat}
theorem sc_Table : FnScope (["self", "prime", "rows", "row", "digits", "entry"] : List Str) (["self", "prime", "rows"] : List Str) (defScope (inCls 15 0)) := ⟨rfl, rfl, rfl, by decide +kernel, rfl, by decide +kernel, by decide +kernel⟩
theorem der_Table (fx : Fx P w K mg base n) (cdv : Value) (A : Around) (outer : List Env) (s : Shared) (H : Hp) (E : XK) (f : Addr) (hr : Room (2 * n + 1) (A.deeper (envOfC "Table.__init__" (defScope (inCls 15 0)) s.heap.objs.size f cdv))) :
    SSs (cxOf (L2.CX P w) P w K mg base (["self", "prime", "rows", "row", "digits", "entry"] : List Str) "Table.__init__" (defScope (inCls 15 0)) f cdv A outer s H E) (defBody (inCls 15 0)) (B_Table (callF tb n)) :=
    (sss_cons (ss_if (st_cmp (op_notIn (units_ok hr)) fits_notIn (se_var (i := 1) rfl (vis2 (by kernel_rfl))) (se_glob rfl fx.k_PRIMES))
    (sss_one ss_stk)
    sss_nil)
    (sss_cons (ss_if (st_w (sw_or (st_cmp (op_eqD hr.units) fits_eq (se_blt call_len fits_len rfl fx.b_len boot_len (sa_cons (se_var (i := 2) rfl (vis1 (by kernel_rfl))) sa_nil)) se_int) (sw_or1 (st_cmp (op_eqD hr.units) fits_eq (se_blt call_len fits_len rfl fx.b_len boot_len (sa_cons (se_ix (se_var (i := 2) rfl (vis1 (by kernel_rfl))) se_int) sa_nil)) se_int))))
    (sss_one (ss_rse rfl (fx.e_BadRows _) rfl))
    sss_nil)
    (sss_cons (ss_lock (ss_for (passes_of rfl) rfl (si_var (i := 2) rfl (vis1 (by kernel_rfl))) (sg_nm sc_Table.nd rfl (loc1 (by kernel_rfl)) (.inr (by kernel_rfl)))
    (sss_one (ss_if (st_cmp (op_neD hr.units) fits_ne (se_blt call_len fits_len rfl fx.b_len boot_len (sa_cons (se_var (i := 3) rfl (vis1 (by kernel_rfl))) sa_nil)) (se_blt call_len fits_len rfl fx.b_len boot_len (sa_cons (se_ix (se_var (i := 2) rfl (vis1 (by kernel_rfl))) se_int) sa_nil)))
    (sss_one (ss_rse rfl (fx.e_BadRows _) rfl))
    sss_nil))))
    (sss_cons (ss_if (st_w (sw_or (st_cmp op_gt fits_cmpI (se_blt call_len fits_len rfl fx.b_len boot_len (sa_cons (se_var (i := 2) rfl (vis1 (by kernel_rfl))) sa_nil)) (se_glob rfl fx.k_MOST_ROWS)) (sw_or1 (st_cmp op_gt fits_cmpI (se_blt call_len fits_len rfl fx.b_len boot_len (sa_cons (se_ix (se_var (i := 2) rfl (vis1 (by kernel_rfl))) se_int) sa_nil)) (se_glob rfl fx.k_MOST_COLUMNS)))))
    (sss_one (ss_rse rfl (fx.e_TooLarge _) rfl))
    sss_nil)
    (sss_cons (ss_fld (i := 0) (fx.p_Table_prime _) rfl (vis1 (by kernel_rfl)) (se_frz (i := 1) rfl (vis2 (by kernel_rfl))))
    (sss_cons (ss_fld (i := 0) (fx.p_Table_size _) rfl (vis1 (by kernel_rfl)) (se_blt call_len fits_len rfl fx.b_len boot_len (sa_cons (se_ix (se_var (i := 2) rfl (vis1 (by kernel_rfl))) se_int) sa_nil)))
    (sss_cons (ss_fld (i := 0) (fx.p_Table_rows _) rfl (vis1 (by kernel_rfl)) (se_bltT call_tuple_of fits_tuple rfl fx.b_tuple boot_tuple (sa_cons (se_lock (se_lc (own := [("row", 3)]) rfl sc_Table.nd (si_var (i := 2) rfl (vis1 (by kernel_rfl))) (blkB_ok (by kernel_rfl)) (fun s H C cl fp => (sn_nm sc_Table.nd rfl (loc1 (by kernel_rfl)) (.inr (by kernel_rfl)))) (fun s H C cl fp => sc_nil) (fun s H C cl fp => (se_bltT call_tuple_of fits_tuple rfl fx.b_tuple boot_tuple (sa_cons (se_lock (se_lc (own := [("entry", 5)]) rfl sc_Table.nd (si_var (i := 3) rfl (vis1 (by kernel_rfl))) (blkB_ok (by kernel_rfl)) (fun s H C cl fp => (sn_nm sc_Table.nd rfl (loc1 (by kernel_rfl)) (.inr (by kernel_rfl)))) (fun s H C cl fp => sc_nil) (fun s H C cl fp => (se_bin op_modN fits_mod (se_var (i := 5) rfl (vis1 (by kernel_rfl))) (se_var (i := 1) rfl (vis2 (by kernel_rfl))))))) sa_nil))))) sa_nil)))
    (sss_cons (ss_setLc (i := 4) (own := [("row", 3)]) rfl sc_Table.nd rfl (by kernel_rfl) rfl (si_seq (se_fld (fx.o_rows _) (se_var (i := 0) rfl (vis1 (by kernel_rfl))))) (blkB_ok (by kernel_rfl)) (fun s H C cl fp => (sn_nm sc_Table.nd rfl (loc1 (by kernel_rfl)) (.inr (by kernel_rfl)))) (fun s H C cl fp => sc_nil) (fun s H C cl fp => (se_join se_str (se_lock (se_lc (own := [("entry", 5)]) rfl sc_Table.nd (si_var (i := 3) rfl (vis1 (by kernel_rfl))) (blkB_ok (by kernel_rfl)) (fun s H C cl fp => (sn_nm sc_Table.nd rfl (loc1 (by kernel_rfl)) (.inr (by kernel_rfl)))) (fun s H C cl fp => sc_nil) (fun s H C cl fp => (se_bltT call_strA fits_str rfl fx.b_str boot_str (sa_cons (se_var (i := 5) rfl (vis1 (by kernel_rfl))) sa_nil))))))))
    (sss_one (ss_fld (i := 0) (fx.p_Table_text _) rfl (vis1 (by kernel_rfl)) (se_bin op_addA fits_add (se_fstr (sj_fmt (se_fld (fx.o_prime _) (se_var (i := 0) rfl (vis1 (by kernel_rfl)))) (sj_txt se_str (sj_fmt (se_fld (fx.o_size _) (se_var (i := 0) rfl (vis1 (by kernel_rfl)))) (sj_txt se_str sj_nil))))) (se_join se_str (se_var (i := 4) rfl (vis1 (by kernel_rfl)))))))))))))))
theorem sc__pivot : FnScope (["rows", "at", "column", "prime", "inverse", "main", "found", "index", "row", "factor", "entry", "own"] : List Str) (["rows", "at", "column", "prime"] : List Str) (defScope (top 19)) := ⟨rfl, rfl, rfl, by decide +kernel, rfl, by decide +kernel, by decide +kernel⟩
theorem der__pivot (fx : Fx P w K mg base n) (cdv : Value) (A : Around) (outer : List Env) (s : Shared) (H : Hp) (E : XK) (f : Addr) (hr : Room (2 * n + 1) (A.deeper (envOfC "_pivot" (defScope (top 19)) s.heap.objs.size f cdv))) :
    SSs (cxOf (L2.CX P w) P w K mg base (["rows", "at", "column", "prime", "inverse", "main", "found", "index", "row", "factor", "entry", "own"] : List Str) "_pivot" (defScope (top 19)) f cdv A outer s H E) (defBody (top 19)) (B__pivot (callF tb n)) :=
    (sss_cons (ss_set (i := 4) sc__pivot.nd rfl (loc2 (by kernel_rfl)) (se_ix (se_wget (kvs := v_INVERSES) rfl (fx.d_INVERSES _) rfl (se_var (i := 3) rfl (vis2 (by kernel_rfl)))) (se_ix (se_ix (se_var (i := 0) rfl (vis1 (by kernel_rfl))) (se_var (i := 1) rfl (vis1 (by kernel_rfl)))) (se_var (i := 2) rfl (vis1 (by kernel_rfl))))) rfl (.inl (by kernel_rfl)))
    (sss_cons (ss_setLc (i := 5) (own := [("entry", 10)]) rfl sc__pivot.nd rfl (by kernel_rfl) rfl (si_seq (se_ix (se_var (i := 0) rfl (vis1 (by kernel_rfl))) (se_var (i := 1) rfl (vis1 (by kernel_rfl))))) (blkB_ok (by kernel_rfl)) (fun s H C cl fp => (sn_nm sc__pivot.nd rfl (loc1 (by kernel_rfl)) (.inr (by kernel_rfl)))) (fun s H C cl fp => sc_nil) (fun s H C cl fp => (se_bin op_modN fits_mod (se_bin op_mulA fits_mul (se_var (i := 10) rfl (vis1 (by kernel_rfl))) (se_var (i := 4) rfl (vis2 (by kernel_rfl)))) (se_var (i := 3) rfl (vis2 (by kernel_rfl))))))
    (sss_cons (ss_set (i := 6) sc__pivot.nd rfl (loc1 (by kernel_rfl)) (se_lst sds_nil) rfl (.inr (by kernel_rfl)))
    (sss_cons (ss_lock (ss_for (passes_of rfl) rfl (si_enum rfl fx.b_enumerate (sq_v (i := 0) rfl (vis1 (by kernel_rfl)))) (sg_tup rfl (sgs_cons (sg_nm sc__pivot.nd rfl (loc1 (by kernel_rfl)) (.inr (by kernel_rfl))) (sgs_cons (sg_nm sc__pivot.nd rfl (loc1 (by kernel_rfl)) (.inr (by kernel_rfl))) sgs_nil)))
    (sss_one (ss_if (st_cmp (op_eqD hr.units) fits_eq (se_var (i := 7) rfl (vis1 (by kernel_rfl))) (se_var (i := 1) rfl (vis1 (by kernel_rfl))))
    (sss_one (ss_app (i := 6) rfl (vis1 (by kernel_rfl)) (se_frz (i := 5) rfl (vis1 (by kernel_rfl)))))
    (sss_cons (ss_set (i := 9) sc__pivot.nd rfl (loc2 (by kernel_rfl)) (se_ix (se_var (i := 8) rfl (vis1 (by kernel_rfl))) (se_var (i := 2) rfl (vis1 (by kernel_rfl)))) rfl (.inl (by kernel_rfl)))
    (sss_one (ss_app (i := 6) rfl (vis1 (by kernel_rfl)) (se_lock (se_lock (se_lc (own := [("entry", 10), ("own", 11)]) rfl sc__pivot.nd (si_zip rfl fx.b_zip (sq_v (i := 8) rfl (vis1 (by kernel_rfl))) (sq_v (i := 5) rfl (vis1 (by kernel_rfl)))) (blkB_ok (by kernel_rfl)) (fun s H C cl fp => (sn_tup rfl (sns_cons (sn_nm sc__pivot.nd rfl (loc1 (by kernel_rfl)) (.inr (by kernel_rfl))) (sns_cons (sn_nm sc__pivot.nd rfl (loc1 (by kernel_rfl)) (.inr (by kernel_rfl))) sns_nil)))) (fun s H C cl fp => sc_nil) (fun s H C cl fp => (se_bin op_modN fits_mod (se_bin op_sub fits_sub (se_var (i := 10) rfl (vis1 (by kernel_rfl))) (se_bin op_mulA fits_mul (se_var (i := 9) rfl (vis2 (by kernel_rfl))) (se_var (i := 11) rfl (vis1 (by kernel_rfl))))) (se_var (i := 3) rfl (vis2 (by kernel_rfl)))))))))))))))
    (sss_one (ss_ret (se_mv (i := 6) rfl (vis1 (by kernel_rfl)))))))))
theorem sc__lead_rows : FnScope (["table", "rows", "leading", "column", "at", "usable", "row", "index"] : List Str) (["table"] : List Str) (defScope (top 20)) := ⟨rfl, rfl, rfl, by decide +kernel, rfl, by decide +kernel, by decide +kernel⟩
theorem der__lead_rows (fx : Fx P w K mg base n) (cdv : Value) (A : Around) (outer : List Env) (s : Shared) (H : Hp) (E : XK) (f : Addr) (hr : Room (2 * n + 1) (A.deeper (envOfC "_lead_rows" (defScope (top 20)) s.heap.objs.size f cdv))) :
    SSs (cxOf (L2.CX P w) P w K mg base (["table", "rows", "leading", "column", "at", "usable", "row", "index"] : List Str) "_lead_rows" (defScope (top 20)) f cdv A outer s H E) (defBody (top 20)) (B__lead_rows (callF tb n)) :=
    (sss_cons (ss_set (i := 1) sc__lead_rows.nd rfl (loc2 (by kernel_rfl)) (se_lc (own := [("row", 6)]) rfl sc__lead_rows.nd (si_seq (se_fld (fx.o_rows _) (se_var (i := 0) rfl (vis1 (by kernel_rfl))))) (blkB_ok (by kernel_rfl)) (fun s H C cl fp => (sn_nm sc__lead_rows.nd rfl (loc1 (by kernel_rfl)) (.inr (by kernel_rfl)))) (fun s H C cl fp => sc_nil) (fun s H C cl fp => (se_bltT call_list_of fits_list rfl fx.b_list boot_list (sa_cons (se_var (i := 6) rfl (vis1 (by kernel_rfl))) sa_nil)))) rfl (.inl (by kernel_rfl)))
    (sss_cons (ss_set (i := 2) sc__lead_rows.nd rfl (loc1 (by kernel_rfl)) (se_lst sds_nil) rfl (.inr (by kernel_rfl)))
    (sss_cons (ss_for (passes_of rfl) rfl (si_rg1 rfl fx.b_range (se_fld (fx.o_size _) (se_var (i := 0) rfl (vis1 (by kernel_rfl))))) (sg_nm sc__lead_rows.nd rfl (loc2 (by kernel_rfl)) (.inl (by kernel_rfl)))
    (sss_cons (ss_set (i := 4) sc__lead_rows.nd rfl (loc1 (by kernel_rfl)) (se_blt call_len fits_len rfl fx.b_len boot_len (sa_cons (se_var (i := 2) rfl (vis1 (by kernel_rfl))) sa_nil)) rfl (.inr (by kernel_rfl)))
    (sss_cons (ss_setLc (i := 5) (own := [("index", 7)]) rfl sc__lead_rows.nd rfl (by kernel_rfl) rfl (si_rg2 rfl fx.b_range (se_var (i := 4) rfl (vis1 (by kernel_rfl))) (se_blt call_len fits_len rfl fx.b_len boot_len (sa_cons (se_var (i := 1) rfl (vis2 (by kernel_rfl))) sa_nil))) (blkB_ok (by kernel_rfl)) (fun s H C cl fp => (sn_nm sc__lead_rows.nd rfl (loc1 (by kernel_rfl)) (.inr (by kernel_rfl)))) (fun s H C cl fp => (sc_one (st_cmp (op_neD hr.units) fits_ne (se_ix (se_ix (se_var (i := 1) rfl (vis2 (by kernel_rfl))) (se_var (i := 7) rfl (vis1 (by kernel_rfl)))) (se_var (i := 3) rfl (vis2 (by kernel_rfl)))) se_int))) (fun s H C cl fp => (se_frz (i := 7) rfl (vis1 (by kernel_rfl)))))
    (sss_one (ss_if (st_cmp (op_neD hr.units) fits_ne (se_var (i := 5) rfl (vis1 (by kernel_rfl))) (se_lst sds_nil))
    (sss_cons (ss_setT (sd_v (se_tup (sds_cons (se_ix (se_var (i := 1) rfl (vis2 (by kernel_rfl))) (se_ix (se_var (i := 5) rfl (vis1 (by kernel_rfl))) se_int)) (sds_cons (se_ix (se_var (i := 1) rfl (vis2 (by kernel_rfl))) (se_var (i := 4) rfl (vis1 (by kernel_rfl)))) sds_nil)))) (sg_tup rfl (sgs_cons (sg_sub (i := 1) rfl (vis2 (by kernel_rfl)) (se_var (i := 4) rfl (vis1 (by kernel_rfl)))) (sgs_cons (sg_sub (i := 1) rfl (vis2 (by kernel_rfl)) (se_ix (se_var (i := 5) rfl (vis1 (by kernel_rfl))) se_int)) sgs_nil))))
    (sss_cons (ss_set (i := 1) sc__lead_rows.nd rfl (loc2 (by kernel_rfl)) (se_call rfl (fx.c__pivot _ hr) (sa_cons (se_var (i := 1) rfl (vis2 (by kernel_rfl))) (sa_cons (se_var (i := 4) rfl (vis1 (by kernel_rfl))) (sa_cons (se_var (i := 3) rfl (vis2 (by kernel_rfl))) (sa_cons (se_fld (fx.o_prime _) (se_var (i := 0) rfl (vis1 (by kernel_rfl)))) sa_nil)))) rfl (hlen := (len_cons (len_cons (len_cons (len_cons len_nil)))))) rfl (.inl (by kernel_rfl)))
    (sss_one (ss_app (i := 2) rfl (vis1 (by kernel_rfl)) (se_frz (i := 3) rfl (vis2 (by kernel_rfl)))))))
    sss_nil)))))
    (sss_one (ss_ret (se_tup (sds_cons (se_sl (se_var (i := 1) rfl (vis2 (by kernel_rfl))) so_none (so_some (se_blt call_len fits_len rfl fx.b_len boot_len (sa_cons (se_var (i := 2) rfl (vis1 (by kernel_rfl))) sa_nil)))) (sds_cons (se_frz (i := 2) rfl (vis1 (by kernel_rfl))) sds_nil))))))))
theorem sc__table_or_zeros : FnScope (["table", "rows"] : List Str) (["table", "rows"] : List Str) (defScope (top 21)) := ⟨rfl, rfl, rfl, by decide +kernel, rfl, by decide +kernel, by decide +kernel⟩
theorem der__table_or_zeros (fx : Fx P w K mg base n) (cdv : Value) (A : Around) (outer : List Env) (s : Shared) (H : Hp) (E : XK) (f : Addr) (hr : Room (2 * n + 1) (A.deeper (envOfC "_table_or_zeros" (defScope (top 21)) s.heap.objs.size f cdv))) :
    SSs (cxOf (L2.CX P w) P w K mg base (["table", "rows"] : List Str) "_table_or_zeros" (defScope (top 21)) f cdv A outer s H E) (defBody (top 21)) (B__table_or_zeros (callF tb n)) :=
    (sss_cons (ss_if (st_cmp (op_eqD hr.units) fits_eq (se_var (i := 1) rfl (vis1 (by kernel_rfl))) (se_lst sds_nil))
    (sss_one (ss_ret (se_make rfl (fx.m_Table _ hr) (sa_cons (se_fld (fx.o_prime _) (se_var (i := 0) rfl (vis1 (by kernel_rfl)))) (sa_cons (se_lst (sds_cons (se_bin op_mulA fits_mul (se_lst (sds_cons se_int sds_nil)) (se_fld (fx.o_size _) (se_var (i := 0) rfl (vis1 (by kernel_rfl))))) sds_nil)) sa_nil)) rfl (hlen := (len_cons (len_cons len_nil))))))
    sss_nil)
    (sss_one (ss_ret (se_make rfl (fx.m_Table _ hr) (sa_cons (se_fld (fx.o_prime _) (se_var (i := 0) rfl (vis1 (by kernel_rfl)))) (sa_cons (se_var (i := 1) rfl (vis1 (by kernel_rfl))) sa_nil)) rfl (hlen := (len_cons (len_cons len_nil)))))))
theorem sc_reduced : FnScope (["table", "rows", "_"] : List Str) (["table"] : List Str) (defScope (top 22)) := ⟨rfl, rfl, rfl, by decide +kernel, rfl, by decide +kernel, by decide +kernel⟩
theorem der_reduced (fx : Fx P w K mg base n) (cdv : Value) (A : Around) (outer : List Env) (s : Shared) (H : Hp) (E : XK) (f : Addr) (hr : Room (2 * n + 1) (A.deeper (envOfC "reduced" (defScope (top 22)) s.heap.objs.size f cdv))) :
    SSs (cxOf (L2.CX P w) P w K mg base (["table", "rows", "_"] : List Str) "reduced" (defScope (top 22)) f cdv A outer s H E) (defBody (top 22)) (B_reduced (callF tb n)) :=
    (sss_cons (ss_setT (sd_v (se_call rfl (fx.c__lead_rows _ hr) (sa_cons (se_var (i := 0) rfl (vis1 (by kernel_rfl))) sa_nil) rfl (hlen := (len_cons len_nil)))) (sg_tup rfl (sgs_cons (sg_nm sc_reduced.nd rfl (loc1 (by kernel_rfl)) (.inr (by kernel_rfl))) (sgs_cons (sg_nm sc_reduced.nd rfl (loc1 (by kernel_rfl)) (.inr (by kernel_rfl))) sgs_nil))))
    (sss_one (ss_ret (se_call rfl (fx.c__table_or_zeros _ hr) (sa_cons (se_var (i := 0) rfl (vis1 (by kernel_rfl))) (sa_cons (se_var (i := 1) rfl (vis1 (by kernel_rfl))) sa_nil)) rfl (hlen := (len_cons (len_cons len_nil)))))))
theorem sc_words : FnScope (["table", "rows", "_", "count", "found", "row", "word", "factor"] : List Str) (["table"] : List Str) (defScope (top 23)) := ⟨rfl, rfl, rfl, by decide +kernel, rfl, by decide +kernel, by decide +kernel⟩
theorem der_words (fx : Fx P w K mg base n) (cdv : Value) (A : Around) (outer : List Env) (s : Shared) (H : Hp) (E : XK) (f : Addr) (hr : Room (2 * n + 1) (A.deeper (envOfC "words" (defScope (top 23)) s.heap.objs.size f cdv))) :
    SSs (cxOf (L2.CX P w) P w K mg base (["table", "rows", "_", "count", "found", "row", "word", "factor"] : List Str) "words" (defScope (top 23)) f cdv A outer s H E) (defBody (top 23)) (B_words (callF tb n)) :=
    (sss_cons (ss_setT (sd_v (se_call rfl (fx.c__lead_rows _ hr) (sa_cons (se_var (i := 0) rfl (vis2 (by kernel_rfl))) sa_nil) rfl (hlen := (len_cons len_nil)))) (sg_tup rfl (sgs_cons (sg_nm sc_words.nd rfl (loc1 (by kernel_rfl)) (.inr (by kernel_rfl))) (sgs_cons (sg_nm sc_words.nd rfl (loc1 (by kernel_rfl)) (.inr (by kernel_rfl))) sgs_nil))))
    (sss_cons (ss_set (i := 3) sc_words.nd rfl (loc1 (by kernel_rfl)) se_int rfl (.inr (by kernel_rfl)))
    (sss_cons (ss_lock (ss_for (passes_of rfl) rfl (si_var (i := 1) rfl (vis1 (by kernel_rfl))) (sg_nm sc_words.nd rfl (loc1 (by kernel_rfl)) (.inr (by kernel_rfl)))
    (sss_one (ss_set (i := 3) sc_words.nd rfl (loc1 (by kernel_rfl)) (se_bin op_mulA fits_mul (se_var (i := 3) rfl (vis1 (by kernel_rfl))) (se_fld (fx.o_prime _) (se_var (i := 0) rfl (vis2 (by kernel_rfl))))) rfl (.inr (by kernel_rfl))))))
    (sss_cons (ss_if (st_cmp op_gt fits_cmpI (se_var (i := 3) rfl (vis1 (by kernel_rfl))) (se_glob rfl fx.k_MOST_WORDS))
    (sss_one (ss_rse rfl (fx.e_TooLarge _) rfl))
    sss_nil)
    (sss_cons (ss_set (i := 4) sc_words.nd rfl (loc1 (by kernel_rfl)) (se_lst (sds_cons (se_bin op_mulA fits_mul (se_tup (sds_cons se_int sds_nil)) (se_fld (fx.o_size _) (se_var (i := 0) rfl (vis2 (by kernel_rfl))))) sds_nil)) rfl (.inr (by kernel_rfl)))
    (sss_cons (ss_lock (ss_for (passes_of rfl) rfl (si_var (i := 1) rfl (vis1 (by kernel_rfl))) (sg_nm sc_words.nd rfl (loc2 (by kernel_rfl)) (.inl (by kernel_rfl)))
    (sss_one (ss_lock (ss_setLc2 (i := 4) (own := [("word", 6), ("factor", 7)]) (vs1 := [7]) rfl sc_words.nd rfl (by kernel_rfl) rfl (si_var (i := 4) rfl (vis1 (by kernel_rfl))) (blkB_ok (by kernel_rfl)) (by decide) (fun s H C cl fp => (sn_nm sc_words.nd rfl (loc1 (by kernel_rfl)) (.inr (by kernel_rfl)))) (fun s H C cl fp => sc_nil) (fun s H C cl fp => (si_rg1 rfl fx.b_range (se_fld (fx.o_prime _) (se_var (i := 0) rfl (vis2 (by kernel_rfl)))))) (fun s H C cl fp => (sn_nm sc_words.nd rfl (loc1 (by kernel_rfl)) (.inr (by kernel_rfl)))) (fun s H C cl fp => sc_nil) (fun s H C cl fp => (se_call rfl (fx.c__plus _ hr) (sa_cons (se_var (i := 6) rfl (vis1 (by kernel_rfl))) (sa_cons (se_var (i := 5) rfl (vis2 (by kernel_rfl))) (sa_cons (se_var (i := 7) rfl (vis1 (by kernel_rfl))) (sa_cons (se_fld (fx.o_prime _) (se_var (i := 0) rfl (vis2 (by kernel_rfl)))) sa_nil)))) rfl (hlen := (len_cons (len_cons (len_cons (len_cons len_nil))))))))))))
    (sss_one (ss_ret (se_bltT call_tuple_of fits_tuple rfl fx.b_tuple boot_tuple (sa_cons (se_blt cr_sortA fits_sorted rfl fx.b_sorted boot_sorted (sa_cons (se_var (i := 4) rfl (vis1 (by kernel_rfl))) sa_nil)) sa_nil))))))))))
theorem sc__plus : FnScope (["word", "row", "factor", "prime", "entry", "own"] : List Str) (["word", "row", "factor", "prime"] : List Str) (defScope (top 24)) := ⟨rfl, rfl, rfl, by decide +kernel, rfl, by decide +kernel, by decide +kernel⟩
theorem der__plus (fx : Fx P w K mg base n) (cdv : Value) (A : Around) (outer : List Env) (s : Shared) (H : Hp) (E : XK) (f : Addr) (hr : Room (2 * n + 1) (A.deeper (envOfC "_plus" (defScope (top 24)) s.heap.objs.size f cdv))) :
    SSs (cxOf (L2.CX P w) P w K mg base (["word", "row", "factor", "prime", "entry", "own"] : List Str) "_plus" (defScope (top 24)) f cdv A outer s H E) (defBody (top 24)) (B__plus (callF tb n)) :=
    (sss_one (ss_ret (se_bltT call_tuple_of fits_tuple rfl fx.b_tuple boot_tuple (sa_cons (se_lock (se_lock (se_lc (own := [("entry", 4), ("own", 5)]) rfl sc__plus.nd (si_zip rfl fx.b_zip (sq_v (i := 0) rfl (vis1 (by kernel_rfl))) (sq_v (i := 1) rfl (vis1 (by kernel_rfl)))) (blkB_ok (by kernel_rfl)) (fun s H C cl fp => (sn_tup rfl (sns_cons (sn_nm sc__plus.nd rfl (loc1 (by kernel_rfl)) (.inr (by kernel_rfl))) (sns_cons (sn_nm sc__plus.nd rfl (loc1 (by kernel_rfl)) (.inr (by kernel_rfl))) sns_nil)))) (fun s H C cl fp => sc_nil) (fun s H C cl fp => (se_bin op_modN fits_mod (se_bin op_addA fits_add (se_var (i := 4) rfl (vis1 (by kernel_rfl))) (se_bin op_mulA fits_mul (se_var (i := 2) rfl (vis2 (by kernel_rfl))) (se_var (i := 5) rfl (vis1 (by kernel_rfl))))) (se_var (i := 3) rfl (vis2 (by kernel_rfl)))))))) sa_nil))))
theorem sc_weight_counts : FnScope (["table", "counts", "word", "entry"] : List Str) (["table"] : List Str) (defScope (top 25)) := ⟨rfl, rfl, rfl, by decide +kernel, rfl, by decide +kernel, by decide +kernel⟩
theorem der_weight_counts (fx : Fx P w K mg base n) (cdv : Value) (A : Around) (outer : List Env) (s : Shared) (H : Hp) (E : XK) (f : Addr) (hr : Room (2 * n + 1) (A.deeper (envOfC "weight_counts" (defScope (top 25)) s.heap.objs.size f cdv))) :
    SSs (cxOf (L2.CX P w) P w K mg base (["table", "counts", "word", "entry"] : List Str) "weight_counts" (defScope (top 25)) f cdv A outer s H E) (defBody (top 25)) (B_weight_counts (callF tb n)) :=
    (sss_cons (ss_set (i := 1) sc_weight_counts.nd rfl (loc1 (by kernel_rfl)) (se_bin op_mulA fits_mul (se_lst (sds_cons se_int sds_nil)) (se_bin op_addA fits_add (se_fld (fx.o_size _) (se_var (i := 0) rfl (vis1 (by kernel_rfl)))) se_int)) rfl (.inr (by kernel_rfl)))
    (sss_cons (ss_for (passes_of rfl) rfl (si_seq (se_call rfl (fx.c_words _ hr) (sa_cons (se_var (i := 0) rfl (vis1 (by kernel_rfl))) sa_nil) rfl (hlen := (len_cons len_nil)))) (sg_nm sc_weight_counts.nd rfl (loc1 (by kernel_rfl)) (.inr (by kernel_rfl)))
    (sss_one (ss_augIx (i := 1) rfl (vis1 (by kernel_rfl)) (se_blt call_len fits_len rfl fx.b_len boot_len (sa_cons (se_lock (se_lc (own := [("entry", 3)]) rfl sc_weight_counts.nd (si_var (i := 2) rfl (vis1 (by kernel_rfl))) (blkB_ok (by kernel_rfl)) (fun s H C cl fp => (sn_nm sc_weight_counts.nd rfl (loc1 (by kernel_rfl)) (.inr (by kernel_rfl)))) (fun s H C cl fp => (sc_one (st_cmp (op_neD hr.units) fits_ne (se_var (i := 3) rfl (vis1 (by kernel_rfl))) se_int))) (fun s H C cl fp => (se_frz (i := 3) rfl (vis1 (by kernel_rfl)))))) sa_nil)) se_int ip_add fitsA_add)))
    (sss_one (ss_ret (se_bltT call_tuple_of fits_tuple rfl fx.b_tuple boot_tuple (sa_cons (se_var (i := 1) rfl (vis1 (by kernel_rfl))) sa_nil))))))
theorem sc__law_cell : FnScope (["script", "k"] : List Str) (["script", "k"] : List Str) (defScope (top 27)) := ⟨rfl, rfl, rfl, by decide +kernel, rfl, by decide +kernel, by decide +kernel⟩
theorem der__law_cell (fx : Fx P w K mg base n) (cdv : Value) (A : Around) (outer : List Env) (s : Shared) (H : Hp) (E : XK) (f : Addr) (hr : Room (2 * n + 1) (A.deeper (envOfC "_law_cell" (defScope (top 27)) s.heap.objs.size f cdv))) :
    SSs (cxOf (L2.CX P w) P w K mg base (["script", "k"] : List Str) "_law_cell" (defScope (top 27)) f cdv A outer s H E) (defBody (top 27)) (B__law_cell (callF tb n)) :=
    (sss_cons (ss_if (st_cmp op_lt fits_cmpI (se_var (i := 1) rfl (vis1 (by kernel_rfl))) (se_blt call_len fits_len rfl fx.b_len boot_len (sa_cons (se_var (i := 0) rfl (vis1 (by kernel_rfl))) sa_nil)))
    (sss_one (ss_ret (se_blt call_abs fits_abs rfl fx.b_abs boot_abs (sa_cons (se_bltT call_intA fits_int rfl fx.b_int boot_int (sa_cons (se_ix (se_var (i := 0) rfl (vis1 (by kernel_rfl))) (se_var (i := 1) rfl (vis1 (by kernel_rfl)))) sa_nil)) sa_nil))))
    sss_nil)
    (sss_one (ss_ret se_int)))
theorem sc__law_alike : FnScope (["told", "due", "k"] : List Str) (["told", "due"] : List Str) (defScope (top 28)) := ⟨rfl, rfl, rfl, by decide +kernel, rfl, by decide +kernel, by decide +kernel⟩
theorem der__law_alike (fx : Fx P w K mg base n) (cdv : Value) (A : Around) (outer : List Env) (s : Shared) (H : Hp) (E : XK) (f : Addr) (hr : Room (2 * n + 1) (A.deeper (envOfC "_law_alike" (defScope (top 28)) s.heap.objs.size f cdv))) :
    SSs (cxOf (L2.CX P w) P w K mg base (["told", "due", "k"] : List Str) "_law_alike" (defScope (top 28)) f cdv A outer s H E) (defBody (top 28)) (B__law_alike (callF tb n)) :=
    (sss_cons (ss_if (st_tr (se_isi (T := "tuple") (se_var (i := 1) rfl (vis1 (by kernel_rfl))) rfl fx.b_isinstance rfl fx.b_tuple boot_tuple))
    (sss_cons (ss_if (st_w (sw_or (st_not (st_tr (se_isi (T := "tuple") (se_var (i := 0) rfl (vis1 (by kernel_rfl))) rfl fx.b_isinstance rfl fx.b_tuple boot_tuple))) (sw_or1 (st_cmp (op_neD hr.units) fits_ne (se_blt call_len fits_len rfl fx.b_len boot_len (sa_cons (se_var (i := 0) rfl (vis1 (by kernel_rfl))) sa_nil)) (se_blt call_len fits_len rfl fx.b_len boot_len (sa_cons (se_var (i := 1) rfl (vis1 (by kernel_rfl))) sa_nil))))))
    (sss_one (ss_ret se_bl))
    sss_nil)
    (sss_cons (ss_for (passes_of rfl) rfl (si_rg1 rfl fx.b_range (se_blt call_len fits_len rfl fx.b_len boot_len (sa_cons (se_var (i := 1) rfl (vis1 (by kernel_rfl))) sa_nil))) (sg_nm sc__law_alike.nd rfl (loc1 (by kernel_rfl)) (.inr (by kernel_rfl)))
    (sss_one (ss_if (st_not (st_tr (se_call rfl (fx.c__law_alike _ hr) (sa_cons (se_ix (se_var (i := 0) rfl (vis1 (by kernel_rfl))) (se_var (i := 2) rfl (vis1 (by kernel_rfl)))) (sa_cons (se_ix (se_var (i := 1) rfl (vis1 (by kernel_rfl))) (se_var (i := 2) rfl (vis1 (by kernel_rfl)))) sa_nil)) rfl (hlen := (len_cons (len_cons len_nil))))))
    (sss_one (ss_ret se_bl))
    sss_nil)))
    (sss_one (ss_ret se_bl))))
    sss_nil)
    (sss_cons (ss_if (st_tr (se_isi (T := "str") (se_var (i := 1) rfl (vis1 (by kernel_rfl))) rfl fx.b_isinstance rfl fx.b_str boot_str))
    (sss_one (ss_ret (se_andV (se_isi (T := "str") (se_var (i := 0) rfl (vis1 (by kernel_rfl))) rfl fx.b_isinstance rfl fx.b_str boot_str) (se_one (se_cmp (op_eqD hr.units) fits_eq (se_var (i := 0) rfl (vis1 (by kernel_rfl))) (se_var (i := 1) rfl (vis1 (by kernel_rfl))))))))
    sss_nil)
    (sss_cons (ss_if (st_tr (se_isi (T := "bool") (se_var (i := 1) rfl (vis1 (by kernel_rfl))) rfl fx.b_isinstance rfl fx.b_bool boot_bool))
    (sss_one (ss_ret (se_andV (se_isi (T := "bool") (se_var (i := 0) rfl (vis1 (by kernel_rfl))) rfl fx.b_isinstance rfl fx.b_bool boot_bool) (se_one (se_cmp (op_eqD hr.units) fits_eq (se_var (i := 0) rfl (vis1 (by kernel_rfl))) (se_var (i := 1) rfl (vis1 (by kernel_rfl))))))))
    sss_nil)
    (sss_one (ss_ret (se_andV (se_isi (T := "int") (se_var (i := 0) rfl (vis1 (by kernel_rfl))) rfl fx.b_isinstance rfl fx.b_int boot_int) (se_andV (se_notV (se_isi (T := "bool") (se_var (i := 0) rfl (vis1 (by kernel_rfl))) rfl fx.b_isinstance rfl fx.b_bool boot_bool)) (se_one (se_cmp (op_eqD hr.units) fits_eq (se_var (i := 0) rfl (vis1 (by kernel_rfl))) (se_var (i := 1) rfl (vis1 (by kernel_rfl))))))))))))
theorem sc__law_digits : FnScope (["cell", "base", "count", "digits", "left", "k"] : List Str) (["cell", "base", "count"] : List Str) (defScope (top 29)) := ⟨rfl, rfl, rfl, by decide +kernel, rfl, by decide +kernel, by decide +kernel⟩
theorem der__law_digits (fx : Fx P w K mg base n) (cdv : Value) (A : Around) (outer : List Env) (s : Shared) (H : Hp) (E : XK) (f : Addr) (hr : Room (2 * n + 1) (A.deeper (envOfC "_law_digits" (defScope (top 29)) s.heap.objs.size f cdv))) :
    SSs (cxOf (L2.CX P w) P w K mg base (["cell", "base", "count", "digits", "left", "k"] : List Str) "_law_digits" (defScope (top 29)) f cdv A outer s H E) (defBody (top 29)) (B__law_digits (callF tb n)) :=
    (sss_cons (ss_set (i := 3) sc__law_digits.nd rfl (loc1 (by kernel_rfl)) (se_lst sds_nil) rfl (.inr (by kernel_rfl)))
    (sss_cons (ss_set (i := 4) sc__law_digits.nd rfl (loc1 (by kernel_rfl)) (se_bltT call_intA fits_int rfl fx.b_int boot_int (sa_cons (se_var (i := 0) rfl (vis1 (by kernel_rfl))) sa_nil)) rfl (.inr (by kernel_rfl)))
    (sss_cons (ss_for (passes_of rfl) rfl (si_rg1 rfl fx.b_range (se_var (i := 2) rfl (vis1 (by kernel_rfl)))) (sg_nm sc__law_digits.nd rfl (loc1 (by kernel_rfl)) (.inr (by kernel_rfl)))
    (sss_cons (ss_app (i := 3) rfl (vis1 (by kernel_rfl)) (se_bin op_modN fits_mod (se_bltT call_intA fits_int rfl fx.b_int boot_int (sa_cons (se_var (i := 4) rfl (vis1 (by kernel_rfl))) sa_nil)) (se_var (i := 1) rfl (vis1 (by kernel_rfl)))))
    (sss_one (ss_set (i := 4) sc__law_digits.nd rfl (loc1 (by kernel_rfl)) (se_bin op_fdivA fits_fdiv (se_var (i := 4) rfl (vis1 (by kernel_rfl))) (se_var (i := 1) rfl (vis1 (by kernel_rfl)))) rfl (.inr (by kernel_rfl))))))
    (sss_one (ss_ret (se_mv (i := 3) rfl (vis1 (by kernel_rfl))))))))
theorem sc__law_bit : FnScope (["at", "column"] : List Str) (["at", "column"] : List Str) (defScope (top 30)) := ⟨rfl, rfl, rfl, by decide +kernel, rfl, by decide +kernel, by decide +kernel⟩
theorem der__law_bit (fx : Fx P w K mg base n) (cdv : Value) (A : Around) (outer : List Env) (s : Shared) (H : Hp) (E : XK) (f : Addr) (hr : Room (2 * n + 1) (A.deeper (envOfC "_law_bit" (defScope (top 30)) s.heap.objs.size f cdv))) :
    SSs (cxOf (L2.CX P w) P w K mg base (["at", "column"] : List Str) "_law_bit" (defScope (top 30)) f cdv A outer s H E) (defBody (top 30)) (B__law_bit (callF tb n)) :=
    (sss_cons (ss_if (st_cmp op_gt fits_cmpI (se_var (i := 0) rfl (vis1 (by kernel_rfl))) se_int)
    (sss_one (ss_ret se_int))
    sss_nil)
    (sss_one (ss_ret (se_bin op_modN fits_mod (se_bin op_fdivA fits_fdiv (se_bltT call_intA fits_int rfl fx.b_int boot_int (sa_cons (se_bin op_addA fits_add (se_var (i := 1) rfl (vis1 (by kernel_rfl))) se_int) sa_nil)) (se_ix (se_lst (sds_cons se_int (sds_cons se_int (sds_cons se_int (sds_cons se_int sds_nil))))) (se_var (i := 0) rfl (vis1 (by kernel_rfl))))) se_int))))
theorem sc__law_drawn : FnScope (["cell", "at", "prime", "size", "digits", "k"] : List Str) (["cell", "at", "prime", "size"] : List Str) (defScope (top 31)) := ⟨rfl, rfl, rfl, by decide +kernel, rfl, by decide +kernel, by decide +kernel⟩
theorem der__law_drawn (fx : Fx P w K mg base n) (cdv : Value) (A : Around) (outer : List Env) (s : Shared) (H : Hp) (E : XK) (f : Addr) (hr : Room (2 * n + 1) (A.deeper (envOfC "_law_drawn" (defScope (top 31)) s.heap.objs.size f cdv))) :
    SSs (cxOf (L2.CX P w) P w K mg base (["cell", "at", "prime", "size", "digits", "k"] : List Str) "_law_drawn" (defScope (top 31)) f cdv A outer s H E) (defBody (top 31)) (B__law_drawn (callF tb n)) :=
    (sss_cons (ss_set (i := 4) sc__law_drawn.nd rfl (loc2 (by kernel_rfl)) (se_call rfl (fx.c__law_digits _ hr) (sa_cons (se_var (i := 0) rfl (vis1 (by kernel_rfl))) (sa_cons (se_var (i := 2) rfl (vis2 (by kernel_rfl))) (sa_cons (se_var (i := 3) rfl (vis1 (by kernel_rfl))) sa_nil))) rfl (hlen := (len_cons (len_cons (len_cons len_nil))))) rfl (.inl (by kernel_rfl)))
    (sss_one (ss_ret (se_lc (own := [("k", 5)]) rfl sc__law_drawn.nd (si_rg1 rfl fx.b_range (se_var (i := 3) rfl (vis1 (by kernel_rfl)))) (blkB_ok (by kernel_rfl)) (fun s H C cl fp => (sn_nm sc__law_drawn.nd rfl (loc1 (by kernel_rfl)) (.inr (by kernel_rfl)))) (fun s H C cl fp => sc_nil) (fun s H C cl fp => (se_bin op_modN fits_mod (se_bltT call_intA fits_int rfl fx.b_int boot_int (sa_cons (se_bin op_addA fits_add (se_ix (se_var (i := 4) rfl (vis2 (by kernel_rfl))) (se_var (i := 5) rfl (vis1 (by kernel_rfl)))) (se_call rfl (fx.c__law_bit _ hr) (sa_cons (se_var (i := 1) rfl (vis2 (by kernel_rfl))) (sa_cons (se_var (i := 5) rfl (vis1 (by kernel_rfl))) sa_nil)) rfl (hlen := (len_cons (len_cons len_nil))))) sa_nil)) (se_var (i := 2) rfl (vis2 (by kernel_rfl)))))))))
theorem sc__law_wide : FnScope (["cell", "at", "prime", "size", "digits", "k"] : List Str) (["cell", "at", "prime", "size"] : List Str) (defScope (top 32)) := ⟨rfl, rfl, rfl, by decide +kernel, rfl, by decide +kernel, by decide +kernel⟩
theorem der__law_wide (fx : Fx P w K mg base n) (cdv : Value) (A : Around) (outer : List Env) (s : Shared) (H : Hp) (E : XK) (f : Addr) (hr : Room (2 * n + 1) (A.deeper (envOfC "_law_wide" (defScope (top 32)) s.heap.objs.size f cdv))) :
    SSs (cxOf (L2.CX P w) P w K mg base (["cell", "at", "prime", "size", "digits", "k"] : List Str) "_law_wide" (defScope (top 32)) f cdv A outer s H E) (defBody (top 32)) (B__law_wide (callF tb n)) :=
    (sss_cons (ss_set (i := 4) sc__law_wide.nd rfl (loc2 (by kernel_rfl)) (se_call rfl (fx.c__law_digits _ hr) (sa_cons (se_var (i := 0) rfl (vis1 (by kernel_rfl))) (sa_cons (se_var (i := 2) rfl (vis2 (by kernel_rfl))) (sa_cons (se_var (i := 3) rfl (vis1 (by kernel_rfl))) sa_nil))) rfl (hlen := (len_cons (len_cons (len_cons len_nil))))) rfl (.inl (by kernel_rfl)))
    (sss_one (ss_ret (se_lc (own := [("k", 5)]) rfl sc__law_wide.nd (si_rg1 rfl fx.b_range (se_var (i := 3) rfl (vis1 (by kernel_rfl)))) (blkB_ok (by kernel_rfl)) (fun s H C cl fp => (sn_nm sc__law_wide.nd rfl (loc1 (by kernel_rfl)) (.inr (by kernel_rfl)))) (fun s H C cl fp => sc_nil) (fun s H C cl fp => (se_bin op_modN fits_mod (se_bltT call_intA fits_int rfl fx.b_int boot_int (sa_cons (se_bin op_addA fits_add (se_ix (se_var (i := 4) rfl (vis2 (by kernel_rfl))) (se_var (i := 5) rfl (vis1 (by kernel_rfl)))) (se_bltT call_intA fits_int rfl fx.b_int boot_int (sa_cons (se_cmp (op_eqD hr.units) fits_eq (se_var (i := 5) rfl (vis1 (by kernel_rfl))) (se_var (i := 1) rfl (vis2 (by kernel_rfl)))) sa_nil))) sa_nil)) (se_var (i := 2) rfl (vis2 (by kernel_rfl)))))))))
theorem sc__law_list : FnScope (["script", "head", "cell", "prime", "count", "size", "cells", "rows", "k"] : List Str) (["script"] : List Str) (defScope (top 33)) := ⟨rfl, rfl, rfl, by decide +kernel, rfl, by decide +kernel, by decide +kernel⟩
theorem der__law_list (fx : Fx P w K mg base n) (cdv : Value) (A : Around) (outer : List Env) (s : Shared) (H : Hp) (E : XK) (f : Addr) (hr : Room (2 * n + 1) (A.deeper (envOfC "_law_list" (defScope (top 33)) s.heap.objs.size f cdv))) :
    SSs (cxOf (L2.CX P w) P w K mg base (["script", "head", "cell", "prime", "count", "size", "cells", "rows", "k"] : List Str) "_law_list" (defScope (top 33)) f cdv A outer s H E) (defBody (top 33)) (B__law_list (callF tb n)) :=
    (sss_cons (ss_set (i := 1) sc__law_list.nd rfl (loc1 (by kernel_rfl)) (se_call rfl (fx.c__law_cell _ hr) (sa_cons (se_var (i := 0) rfl (vis2 (by kernel_rfl))) (sa_cons se_int sa_nil)) rfl (hlen := (len_cons (len_cons len_nil)))) rfl (.inr (by kernel_rfl)))
    (sss_cons (ss_set (i := 2) sc__law_list.nd rfl (loc1 (by kernel_rfl)) (se_call rfl (fx.c__law_cell _ hr) (sa_cons (se_var (i := 0) rfl (vis2 (by kernel_rfl))) (sa_cons se_int sa_nil)) rfl (hlen := (len_cons (len_cons len_nil)))) rfl (.inr (by kernel_rfl)))
    (sss_cons (ss_set (i := 3) sc__law_list.nd rfl (loc1 (by kernel_rfl)) (se_ix (se_lst (sds_cons se_int (sds_cons se_int (sds_cons se_int sds_nil)))) (se_bin op_modN fits_mod (se_bltT call_intA fits_int rfl fx.b_int boot_int (sa_cons (se_var (i := 2) rfl (vis1 (by kernel_rfl))) sa_nil)) se_int)) rfl (.inr (by kernel_rfl)))
    (sss_cons (ss_set (i := 4) sc__law_list.nd rfl (loc1 (by kernel_rfl)) (se_bin op_addA fits_add se_int (se_bin op_modN fits_mod (se_bltT call_intA fits_int rfl fx.b_int boot_int (sa_cons (se_bin op_addA fits_add (se_bin op_fdivA fits_fdiv (se_var (i := 1) rfl (vis1 (by kernel_rfl))) se_int) se_int) sa_nil)) se_int)) rfl (.inr (by kernel_rfl)))
    (sss_cons (ss_set (i := 5) sc__law_list.nd rfl (loc1 (by kernel_rfl)) (se_bin op_addA fits_add se_int (se_bin op_modN fits_mod (se_bltT call_intA fits_int rfl fx.b_int boot_int (sa_cons (se_bin op_addA fits_add (se_bin op_fdivA fits_fdiv (se_var (i := 1) rfl (vis1 (by kernel_rfl))) se_int) se_int) sa_nil)) se_int)) rfl (.inr (by kernel_rfl)))
    (sss_cons (ss_setLc (i := 6) (own := [("k", 8)]) rfl sc__law_list.nd rfl (by kernel_rfl) rfl (si_rg1 rfl fx.b_range se_int) (blkB_ok (by kernel_rfl)) (fun s H C cl fp => (sn_nm sc__law_list.nd rfl (loc1 (by kernel_rfl)) (.inr (by kernel_rfl)))) (fun s H C cl fp => sc_nil) (fun s H C cl fp => (se_call rfl (fx.c__law_cell _ hr) (sa_cons (se_var (i := 0) rfl (vis2 (by kernel_rfl))) (sa_cons (se_bin op_addA fits_add se_int (se_var (i := 8) rfl (vis1 (by kernel_rfl)))) sa_nil)) rfl (hlen := (len_cons (len_cons len_nil))))))
    (sss_cons (ss_if (st_cmp (op_eqD hr.units) fits_eq (se_bin op_modN fits_mod (se_bltT call_intA fits_int rfl fx.b_int boot_int (sa_cons (se_var (i := 1) rfl (vis1 (by kernel_rfl))) sa_nil)) se_int) se_int)
    (sss_cons (ss_set (i := 3) sc__law_list.nd rfl (loc1 (by kernel_rfl)) (se_ix (se_lst (sds_cons se_int (sds_cons se_int (sds_cons se_int (sds_cons se_int sds_nil))))) (se_bin op_modN fits_mod (se_bltT call_intA fits_int rfl fx.b_int boot_int (sa_cons (se_var (i := 2) rfl (vis1 (by kernel_rfl))) sa_nil)) se_int)) rfl (.inr (by kernel_rfl)))
    (sss_cons (ss_set (i := 4) sc__law_list.nd rfl (loc1 (by kernel_rfl)) (se_ix (se_lst (sds_cons se_int (sds_cons se_int (sds_cons se_int (sds_cons se_int sds_nil))))) (se_bin op_modN fits_mod (se_bltT call_intA fits_int rfl fx.b_int boot_int (sa_cons (se_var (i := 2) rfl (vis1 (by kernel_rfl))) sa_nil)) se_int)) rfl (.inr (by kernel_rfl)))
    (sss_one (ss_set (i := 5) sc__law_list.nd rfl (loc1 (by kernel_rfl)) (se_bin op_addA fits_add se_int (se_bin op_modN fits_mod (se_bltT call_intA fits_int rfl fx.b_int boot_int (sa_cons (se_bin op_addA fits_add (se_bin op_fdivA fits_fdiv (se_var (i := 2) rfl (vis1 (by kernel_rfl))) se_int) se_int) sa_nil)) se_int)) rfl (.inr (by kernel_rfl))))))
    sss_nil)
    (sss_cons (ss_set (i := 7) sc__law_list.nd rfl (loc1 (by kernel_rfl)) (se_lst sds_nil) rfl (.inr (by kernel_rfl)))
    (sss_cons (ss_for (passes_of rfl) rfl (si_rg1 rfl fx.b_range (se_var (i := 4) rfl (vis1 (by kernel_rfl)))) (sg_nm sc__law_list.nd rfl (loc1 (by kernel_rfl)) (.inr (by kernel_rfl)))
    (sss_one (ss_if (st_cmp op_gt fits_cmpI (se_var (i := 5) rfl (vis1 (by kernel_rfl))) se_int)
    (sss_one (ss_app (i := 7) rfl (vis1 (by kernel_rfl)) (se_call rfl (fx.c__law_wide _ hr) (sa_cons (se_ix (se_var (i := 6) rfl (vis1 (by kernel_rfl))) (se_var (i := 8) rfl (vis1 (by kernel_rfl)))) (sa_cons (se_var (i := 8) rfl (vis1 (by kernel_rfl))) (sa_cons (se_var (i := 3) rfl (vis1 (by kernel_rfl))) (sa_cons (se_var (i := 5) rfl (vis1 (by kernel_rfl))) sa_nil)))) rfl (hlen := (len_cons (len_cons (len_cons (len_cons len_nil))))))))
    (sss_one (ss_app (i := 7) rfl (vis1 (by kernel_rfl)) (se_call rfl (fx.c__law_drawn _ hr) (sa_cons (se_ix (se_var (i := 6) rfl (vis1 (by kernel_rfl))) (se_var (i := 8) rfl (vis1 (by kernel_rfl)))) (sa_cons (se_var (i := 8) rfl (vis1 (by kernel_rfl))) (sa_cons (se_var (i := 3) rfl (vis1 (by kernel_rfl))) (sa_cons (se_var (i := 5) rfl (vis1 (by kernel_rfl))) sa_nil)))) rfl (hlen := (len_cons (len_cons (len_cons (len_cons len_nil)))))))))))
    (sss_one (ss_ret (se_tup (sds_cons (se_frz (i := 3) rfl (vis1 (by kernel_rfl))) (sds_cons (se_frz (i := 7) rfl (vis1 (by kernel_rfl))) sds_nil))))))))))))))
theorem sc__law_plus : FnScope (["word", "times", "row", "p", "size", "k"] : List Str) (["word", "times", "row", "p"] : List Str) (defScope (top 34)) := ⟨rfl, rfl, rfl, by decide +kernel, rfl, by decide +kernel, by decide +kernel⟩
theorem der__law_plus (fx : Fx P w K mg base n) (cdv : Value) (A : Around) (outer : List Env) (s : Shared) (H : Hp) (E : XK) (f : Addr) (hr : Room (2 * n + 1) (A.deeper (envOfC "_law_plus" (defScope (top 34)) s.heap.objs.size f cdv))) :
    SSs (cxOf (L2.CX P w) P w K mg base (["word", "times", "row", "p", "size", "k"] : List Str) "_law_plus" (defScope (top 34)) f cdv A outer s H E) (defBody (top 34)) (B__law_plus (callF tb n)) :=
    (sss_cons (ss_set (i := 4) sc__law_plus.nd rfl (loc1 (by kernel_rfl)) (se_blt call_len fits_len rfl fx.b_len boot_len (sa_cons (se_var (i := 2) rfl (vis2 (by kernel_rfl))) sa_nil)) rfl (.inr (by kernel_rfl)))
    (sss_one (ss_ret (se_bltT call_tuple_of fits_tuple rfl fx.b_tuple boot_tuple (sa_cons (se_lc (own := [("k", 5)]) rfl sc__law_plus.nd (si_rg1 rfl fx.b_range (se_var (i := 4) rfl (vis1 (by kernel_rfl)))) (blkB_ok (by kernel_rfl)) (fun s H C cl fp => (sn_nm sc__law_plus.nd rfl (loc1 (by kernel_rfl)) (.inr (by kernel_rfl)))) (fun s H C cl fp => sc_nil) (fun s H C cl fp => (se_bin op_modN fits_mod (se_bltT call_intA fits_int rfl fx.b_int boot_int (sa_cons (se_bin op_addA fits_add (se_ix (se_var (i := 0) rfl (vis2 (by kernel_rfl))) (se_var (i := 5) rfl (vis1 (by kernel_rfl)))) (se_bin op_mulA fits_mul (se_var (i := 1) rfl (vis2 (by kernel_rfl))) (se_ix (se_var (i := 2) rfl (vis2 (by kernel_rfl))) (se_var (i := 5) rfl (vis1 (by kernel_rfl)))))) sa_nil)) (se_var (i := 3) rfl (vis2 (by kernel_rfl)))))) sa_nil)))))
theorem sc__law_span : FnScope (["rows", "prime", "found", "row", "grown", "times", "word"] : List Str) (["rows", "prime"] : List Str) (defScope (top 35)) := ⟨rfl, rfl, rfl, by decide +kernel, rfl, by decide +kernel, by decide +kernel⟩
theorem der__law_span (fx : Fx P w K mg base n) (cdv : Value) (A : Around) (outer : List Env) (s : Shared) (H : Hp) (E : XK) (f : Addr) (hr : Room (2 * n + 1) (A.deeper (envOfC "_law_span" (defScope (top 35)) s.heap.objs.size f cdv))) :
    SSs (cxOf (L2.CX P w) P w K mg base (["rows", "prime", "found", "row", "grown", "times", "word"] : List Str) "_law_span" (defScope (top 35)) f cdv A outer s H E) (defBody (top 35)) (B__law_span (callF tb n)) :=
    (sss_cons (ss_set (i := 2) sc__law_span.nd rfl (loc1 (by kernel_rfl)) (se_lst (sds_cons (se_bin op_mulA fits_mul (se_tup (sds_cons se_int sds_nil)) (se_blt call_len fits_len rfl fx.b_len boot_len (sa_cons (se_ix (se_var (i := 0) rfl (vis1 (by kernel_rfl))) se_int) sa_nil))) sds_nil)) rfl (.inr (by kernel_rfl)))
    (sss_cons (ss_lock (ss_for (passes_of rfl) rfl (si_var (i := 0) rfl (vis1 (by kernel_rfl))) (sg_nm sc__law_span.nd rfl (loc1 (by kernel_rfl)) (.inr (by kernel_rfl)))
    (sss_one (ss_if (st_cmp (op_notIn (units_ok hr)) fits_notIn (se_bltT call_tuple_of fits_tuple rfl fx.b_tuple boot_tuple (sa_cons (se_var (i := 3) rfl (vis1 (by kernel_rfl))) sa_nil)) (se_var (i := 2) rfl (vis1 (by kernel_rfl))))
    (sss_cons (ss_if (st_cmp op_gt fits_cmpI (se_bin op_mulA fits_mul (se_blt call_len fits_len rfl fx.b_len boot_len (sa_cons (se_var (i := 2) rfl (vis1 (by kernel_rfl))) sa_nil)) (se_var (i := 1) rfl (vis1 (by kernel_rfl)))) se_int)
    (sss_one (ss_ret (se_tup sds_nil)))
    sss_nil)
    (sss_cons (ss_set (i := 4) sc__law_span.nd rfl (loc1 (by kernel_rfl)) (se_lst sds_nil) rfl (.inr (by kernel_rfl)))
    (sss_cons (ss_for (passes_of rfl) rfl (si_rg1 rfl fx.b_range (se_var (i := 1) rfl (vis1 (by kernel_rfl)))) (sg_nm sc__law_span.nd rfl (loc1 (by kernel_rfl)) (.inr (by kernel_rfl)))
    (sss_one (ss_lock (ss_for (passes_of rfl) rfl (si_var (i := 2) rfl (vis1 (by kernel_rfl))) (sg_nm sc__law_span.nd rfl (loc1 (by kernel_rfl)) (.inr (by kernel_rfl)))
    (sss_one (ss_app (i := 4) rfl (vis1 (by kernel_rfl)) (se_call rfl (fx.c__law_plus _ hr) (sa_cons (se_var (i := 6) rfl (vis1 (by kernel_rfl))) (sa_cons (se_var (i := 5) rfl (vis1 (by kernel_rfl))) (sa_cons (se_var (i := 3) rfl (vis1 (by kernel_rfl))) (sa_cons (se_var (i := 1) rfl (vis1 (by kernel_rfl))) sa_nil)))) rfl (hlen := (len_cons (len_cons (len_cons (len_cons len_nil))))))))))))
    (sss_one (ss_set (i := 2) sc__law_span.nd rfl (loc1 (by kernel_rfl)) (se_bltT call_list_of fits_list rfl fx.b_list boot_list (sa_cons (se_var (i := 4) rfl (vis1 (by kernel_rfl))) sa_nil)) rfl (.inr (by kernel_rfl)))))))
    sss_nil))))
    (sss_one (ss_ret (se_bltT call_tuple_of fits_tuple rfl fx.b_tuple boot_tuple (sa_cons (se_blt cr_sortA fits_sorted rfl fx.b_sorted boot_sorted (sa_cons (se_var (i := 2) rfl (vis1 (by kernel_rfl))) sa_nil)) sa_nil))))))
theorem sc__law_same : FnScope (["told", "due", "k", "word", "entry"] : List Str) (["told", "due"] : List Str) (defScope (top 36)) := ⟨rfl, rfl, rfl, by decide +kernel, rfl, by decide +kernel, by decide +kernel⟩
theorem der__law_same (fx : Fx P w K mg base n) (cdv : Value) (A : Around) (outer : List Env) (s : Shared) (H : Hp) (E : XK) (f : Addr) (hr : Room (2 * n + 1) (A.deeper (envOfC "_law_same" (defScope (top 36)) s.heap.objs.size f cdv))) :
    SSs (cxOf (L2.CX P w) P w K mg base (["told", "due", "k", "word", "entry"] : List Str) "_law_same" (defScope (top 36)) f cdv A outer s H E) (defBody (top 36)) (B__law_same (callF tb n)) :=
    (sss_cons (ss_if (st_w (sw_or (st_not (st_tr (se_isi (T := "tuple") (se_var (i := 0) rfl (vis1 (by kernel_rfl))) rfl fx.b_isinstance rfl fx.b_tuple boot_tuple))) (sw_or1 (st_cmp (op_neD hr.units) fits_ne (se_blt call_len fits_len rfl fx.b_len boot_len (sa_cons (se_var (i := 0) rfl (vis1 (by kernel_rfl))) sa_nil)) (se_blt call_len fits_len rfl fx.b_len boot_len (sa_cons (se_var (i := 1) rfl (vis1 (by kernel_rfl))) sa_nil))))))
    (sss_one (ss_ret se_bl))
    sss_nil)
    (sss_cons (ss_for (passes_of rfl) rfl (si_rg1 rfl fx.b_range (se_blt call_len fits_len rfl fx.b_len boot_len (sa_cons (se_var (i := 1) rfl (vis1 (by kernel_rfl))) sa_nil))) (sg_nm sc__law_same.nd rfl (loc1 (by kernel_rfl)) (.inr (by kernel_rfl)))
    (sss_cons (ss_set (i := 3) sc__law_same.nd rfl (loc1 (by kernel_rfl)) (se_ix (se_var (i := 0) rfl (vis1 (by kernel_rfl))) (se_var (i := 2) rfl (vis1 (by kernel_rfl)))) rfl (.inr (by kernel_rfl)))
    (sss_cons (ss_if (st_w (sw_or (st_not (st_tr (se_isi (T := "tuple") (se_var (i := 3) rfl (vis1 (by kernel_rfl))) rfl fx.b_isinstance rfl fx.b_tuple boot_tuple))) (sw_or1 (st_cmp (op_neD hr.units) fits_ne (se_var (i := 3) rfl (vis1 (by kernel_rfl))) (se_ix (se_var (i := 1) rfl (vis1 (by kernel_rfl))) (se_var (i := 2) rfl (vis1 (by kernel_rfl))))))))
    (sss_one (ss_ret se_bl))
    sss_nil)
    (sss_one (ss_lock (ss_for (passes_of rfl) rfl (si_var (i := 3) rfl (vis1 (by kernel_rfl))) (sg_nm sc__law_same.nd rfl (loc1 (by kernel_rfl)) (.inr (by kernel_rfl)))
    (sss_one (ss_if (st_w (sw_or (st_not (st_tr (se_isi (T := "int") (se_var (i := 4) rfl (vis1 (by kernel_rfl))) rfl fx.b_isinstance rfl fx.b_int boot_int))) (sw_or1 (st_tr (se_isi (T := "bool") (se_var (i := 4) rfl (vis1 (by kernel_rfl))) rfl fx.b_isinstance rfl fx.b_bool boot_bool)))))
    (sss_one (ss_ret se_bl))
    sss_nil))))))))
    (sss_one (ss_ret se_bl))))
theorem sc__law_counts : FnScope (["due", "size", "counts", "word", "spot", "entry"] : List Str) (["due", "size"] : List Str) (defScope (top 37)) := ⟨rfl, rfl, rfl, by decide +kernel, rfl, by decide +kernel, by decide +kernel⟩
theorem der__law_counts (fx : Fx P w K mg base n) (cdv : Value) (A : Around) (outer : List Env) (s : Shared) (H : Hp) (E : XK) (f : Addr) (hr : Room (2 * n + 1) (A.deeper (envOfC "_law_counts" (defScope (top 37)) s.heap.objs.size f cdv))) :
    SSs (cxOf (L2.CX P w) P w K mg base (["due", "size", "counts", "word", "spot", "entry"] : List Str) "_law_counts" (defScope (top 37)) f cdv A outer s H E) (defBody (top 37)) (B__law_counts (callF tb n)) :=
    (sss_cons (ss_set (i := 2) sc__law_counts.nd rfl (loc1 (by kernel_rfl)) (se_bin op_mulA fits_mul (se_lst (sds_cons se_int sds_nil)) (se_bin op_addA fits_add (se_var (i := 1) rfl (vis1 (by kernel_rfl))) se_int)) rfl (.inr (by kernel_rfl)))
    (sss_cons (ss_lock (ss_for (passes_of rfl) rfl (si_var (i := 0) rfl (vis1 (by kernel_rfl))) (sg_nm sc__law_counts.nd rfl (loc1 (by kernel_rfl)) (.inr (by kernel_rfl)))
    (sss_cons (ss_set (i := 4) sc__law_counts.nd rfl (loc1 (by kernel_rfl)) (se_blt call_len fits_len rfl fx.b_len boot_len (sa_cons (se_lock (se_lc (own := [("entry", 5)]) rfl sc__law_counts.nd (si_var (i := 3) rfl (vis1 (by kernel_rfl))) (blkB_ok (by kernel_rfl)) (fun s H C cl fp => (sn_nm sc__law_counts.nd rfl (loc1 (by kernel_rfl)) (.inr (by kernel_rfl)))) (fun s H C cl fp => (sc_one (st_cmp (op_neD hr.units) fits_ne (se_var (i := 5) rfl (vis1 (by kernel_rfl))) se_int))) (fun s H C cl fp => (se_frz (i := 5) rfl (vis1 (by kernel_rfl)))))) sa_nil)) rfl (.inr (by kernel_rfl)))
    (sss_one (ss_setT (sd_v (se_bin op_addA fits_add (se_ix (se_var (i := 2) rfl (vis1 (by kernel_rfl))) (se_var (i := 4) rfl (vis1 (by kernel_rfl)))) se_int)) (sg_sub (i := 2) rfl (vis1 (by kernel_rfl)) (se_var (i := 4) rfl (vis1 (by kernel_rfl)))))))))
    (sss_one (ss_ret (se_bltT call_tuple_of fits_tuple rfl fx.b_tuple boot_tuple (sa_cons (se_var (i := 2) rfl (vis1 (by kernel_rfl))) sa_nil))))))
theorem sc__law_fate : FnScope (["table", "counted", "e"] : List Str) (["table", "counted"] : List Str) (defScope (top 38)) := ⟨rfl, rfl, rfl, by decide +kernel, rfl, by decide +kernel, by decide +kernel⟩
theorem der__law_fate (fx : Fx P w K mg base n) (cdv : Value) (A : Around) (outer : List Env) (s : Shared) (H : Hp) (E : XK) (f : Addr) (hr : Room (2 * n + 1) (A.deeper (envOfC "_law_fate" (defScope (top 38)) s.heap.objs.size f cdv))) :
    SSs (cxOf (L2.CX P w) P w K mg base (["table", "counted", "e"] : List Str) "_law_fate" (defScope (top 38)) f cdv A outer s H E) (defBody (top 38)) (B__law_fate (callF tb n)) :=
    (sss_cons (ss_try (i := 2) (c := Cn.v K (.own ("StrikejoinError" : Str))) rfl rfl rfl sc__law_fate.nd rfl rfl ⟨rfl, rfl, .inl fx.g_StrikejoinError⟩ (fx.s_StrikejoinError _) (fun pn xe hp => (sss_one (ss_if (st_tr (se_var (i := 1) rfl (vis1 (by kernel_rfl))))
    (sss_one (ss_expr (se_call rfl (fx.c_weight_counts _ hr) (sa_cons (se_var (i := 0) rfl (vis1 (by kernel_rfl))) sa_nil) rfl (hlen := (len_cons len_nil)))))
    (sss_one (ss_expr (se_call rfl (fx.c_words _ hr) (sa_cons (se_var (i := 0) rfl (vis1 (by kernel_rfl))) sa_nil) rfl (hlen := (len_cons len_nil))))))))
    (fun a oe pn => (sss_cons (ss_if (st_w (sw_and (st_tr (se_isE (X := _) (cv := Cn.v K (.own ("TooLarge" : Str))) (fx.i_TooLarge _) (i := 2) rfl (vis1 (by kernel_rfl)) rfl fx.b_isinstance (pe_glob (v := V.ref (He.ga K ("TooLarge" : Str))) rfl fx.g_TooLarge rfl) (fun _ h => h))) (sw_and (st_tr (se_isE (X := _) (cv := Cn.v K (.ty "ValueError")) (fx.i_ValueError _) (i := 2) rfl (vis1 (by kernel_rfl)) rfl fx.b_isinstance (pe_bltn (v := V.ty "ValueError") rfl fx.b_ValueError (by kernel_rfl) rfl) (fun _ h => h))) (sw_and1 (st_not (st_tr (se_isE (X := _) (cv := Cn.v K (.own ("BadRows" : Str))) (fx.i_BadRows _) (i := 2) rfl (vis1 (by kernel_rfl)) rfl fx.b_isinstance (pe_glob (v := V.ref (He.ga K ("BadRows" : Str))) rfl fx.g_BadRows rfl) (fun _ h => h))))))))
    (sss_one (ss_ret (se_tup (sds_cons se_str sds_nil))))
    sss_nil)
    (sss_one (ss_ret (se_tup (sds_cons se_str sds_nil)))))))
    (sss_one (ss_ret (se_tup (sds_cons se_str sds_nil)))))
theorem sc__law_refused : FnScope (["table"] : List Str) (["table"] : List Str) (defScope (top 39)) := ⟨rfl, rfl, rfl, by decide +kernel, rfl, by decide +kernel, by decide +kernel⟩
theorem der__law_refused (fx : Fx P w K mg base n) (cdv : Value) (A : Around) (outer : List Env) (s : Shared) (H : Hp) (E : XK) (f : Addr) (hr : Room (2 * n + 1) (A.deeper (envOfC "_law_refused" (defScope (top 39)) s.heap.objs.size f cdv))) :
    SSs (cxOf (L2.CX P w) P w K mg base (["table"] : List Str) "_law_refused" (defScope (top 39)) f cdv A outer s H E) (defBody (top 39)) (B__law_refused (callF tb n)) :=
    (sss_cons (ss_if (st_not (st_tr (se_call rfl (fx.c__law_alike _ hr) (sa_cons (se_call rfl (fx.c__law_fate _ hr) (sa_cons (se_var (i := 0) rfl (vis1 (by kernel_rfl))) (sa_cons se_bl sa_nil)) rfl (hlen := (len_cons (len_cons len_nil)))) (sa_cons (se_tup (sds_cons se_str sds_nil)) sa_nil)) rfl (hlen := (len_cons (len_cons len_nil))))))
    (sss_one (ss_ret se_bl))
    sss_nil)
    (sss_one (ss_ret (se_call rfl (fx.c__law_alike _ hr) (sa_cons (se_call rfl (fx.c__law_fate _ hr) (sa_cons (se_var (i := 0) rfl (vis1 (by kernel_rfl))) (sa_cons se_bl sa_nil)) rfl (hlen := (len_cons (len_cons len_nil)))) (sa_cons (se_tup (sds_cons se_str sds_nil)) sa_nil)) rfl (hlen := (len_cons (len_cons len_nil)))))))
theorem sc__law_holds : FnScope (["prime", "rows", "table", "size", "due", "row"] : List Str) (["prime", "rows"] : List Str) (defScope (top 40)) := ⟨rfl, rfl, rfl, by decide +kernel, rfl, by decide +kernel, by decide +kernel⟩
theorem der__law_holds (fx : Fx P w K mg base n) (cdv : Value) (A : Around) (outer : List Env) (s : Shared) (H : Hp) (E : XK) (f : Addr) (hr : Room (2 * n + 1) (A.deeper (envOfC "_law_holds" (defScope (top 40)) s.heap.objs.size f cdv))) :
    SSs (cxOf (L2.CX P w) P w K mg base (["prime", "rows", "table", "size", "due", "row"] : List Str) "_law_holds" (defScope (top 40)) f cdv A outer s H E) (defBody (top 40)) (B__law_holds (callF tb n)) :=
    (sss_cons (ss_set (i := 2) sc__law_holds.nd rfl (loc1 (by kernel_rfl)) (se_make rfl (fx.m_Table _ hr) (sa_cons (se_frz (i := 0) rfl (vis1 (by kernel_rfl))) (sa_cons (se_lock (se_lc (own := [("row", 5)]) rfl sc__law_holds.nd (si_var (i := 1) rfl (vis1 (by kernel_rfl))) (blkB_ok (by kernel_rfl)) (fun s H C cl fp => (sn_nm sc__law_holds.nd rfl (loc1 (by kernel_rfl)) (.inr (by kernel_rfl)))) (fun s H C cl fp => sc_nil) (fun s H C cl fp => (se_bltT call_list_of fits_list rfl fx.b_list boot_list (sa_cons (se_var (i := 5) rfl (vis1 (by kernel_rfl))) sa_nil))))) sa_nil)) rfl (hlen := (len_cons (len_cons len_nil)))) rfl (.inr (by kernel_rfl)))
    (sss_cons (ss_set (i := 3) sc__law_holds.nd rfl (loc1 (by kernel_rfl)) (se_blt call_len fits_len rfl fx.b_len boot_len (sa_cons (se_ix (se_var (i := 1) rfl (vis1 (by kernel_rfl))) se_int) sa_nil)) rfl (.inr (by kernel_rfl)))
    (sss_cons (ss_set (i := 4) sc__law_holds.nd rfl (loc1 (by kernel_rfl)) (se_call rfl (fx.c__law_span _ hr) (sa_cons (se_var (i := 1) rfl (vis1 (by kernel_rfl))) (sa_cons (se_var (i := 0) rfl (vis1 (by kernel_rfl))) sa_nil)) rfl (hlen := (len_cons (len_cons len_nil)))) rfl (.inr (by kernel_rfl)))
    (sss_cons (ss_if (st_cmp (op_eqD hr.units) fits_eq (se_var (i := 4) rfl (vis1 (by kernel_rfl))) (se_tup sds_nil))
    (sss_one (ss_ret (se_call rfl (fx.c__law_refused _ hr) (sa_cons (se_var (i := 2) rfl (vis1 (by kernel_rfl))) sa_nil) rfl (hlen := (len_cons len_nil)))))
    sss_nil)
    (sss_cons (ss_if (st_not (st_tr (se_call rfl (fx.c__law_same _ hr) (sa_cons (se_call rfl (fx.c_words _ hr) (sa_cons (se_var (i := 2) rfl (vis1 (by kernel_rfl))) sa_nil) rfl (hlen := (len_cons len_nil))) (sa_cons (se_var (i := 4) rfl (vis1 (by kernel_rfl))) sa_nil)) rfl (hlen := (len_cons (len_cons len_nil))))))
    (sss_one (ss_ret se_bl))
    sss_nil)
    (sss_cons (ss_if (st_not (st_tr (se_call rfl (fx.c__law_alike _ hr) (sa_cons (se_call rfl (fx.c_weight_counts _ hr) (sa_cons (se_var (i := 2) rfl (vis1 (by kernel_rfl))) sa_nil) rfl (hlen := (len_cons len_nil))) (sa_cons (se_call rfl (fx.c__law_counts _ hr) (sa_cons (se_var (i := 4) rfl (vis1 (by kernel_rfl))) (sa_cons (se_var (i := 3) rfl (vis1 (by kernel_rfl))) sa_nil)) rfl (hlen := (len_cons (len_cons len_nil)))) sa_nil)) rfl (hlen := (len_cons (len_cons len_nil))))))
    (sss_one (ss_ret se_bl))
    sss_nil)
    (sss_cons (ss_if (st_not (st_tr (se_call rfl (fx.c__law_alike _ hr) (sa_cons (se_fld (fx.o_rows _) (se_var (i := 2) rfl (vis1 (by kernel_rfl)))) (sa_cons (se_bltT call_tuple_of fits_tuple rfl fx.b_tuple boot_tuple (sa_cons (se_lock (se_lc (own := [("row", 5)]) rfl sc__law_holds.nd (si_var (i := 1) rfl (vis1 (by kernel_rfl))) (blkB_ok (by kernel_rfl)) (fun s H C cl fp => (sn_nm sc__law_holds.nd rfl (loc1 (by kernel_rfl)) (.inr (by kernel_rfl)))) (fun s H C cl fp => sc_nil) (fun s H C cl fp => (se_bltT call_tuple_of fits_tuple rfl fx.b_tuple boot_tuple (sa_cons (se_var (i := 5) rfl (vis1 (by kernel_rfl))) sa_nil))))) sa_nil)) sa_nil)) rfl (hlen := (len_cons (len_cons len_nil))))))
    (sss_one (ss_ret se_bl))
    sss_nil)
    (sss_cons (ss_if (st_cmp op_gt fits_cmpI (se_blt call_len fits_len rfl fx.b_len boot_len (sa_cons (se_var (i := 4) rfl (vis1 (by kernel_rfl))) sa_nil)) se_int)
    (sss_one (ss_ret se_bl))
    sss_nil)
    (sss_cons (ss_if (st_not (st_tr (se_call rfl (fx.c__law_same _ hr) (sa_cons (se_call rfl (fx.c_words _ hr) (sa_cons (se_call rfl (fx.c_reduced _ hr) (sa_cons (se_var (i := 2) rfl (vis1 (by kernel_rfl))) sa_nil) rfl (hlen := (len_cons len_nil))) sa_nil) rfl (hlen := (len_cons len_nil))) (sa_cons (se_var (i := 4) rfl (vis1 (by kernel_rfl))) sa_nil)) rfl (hlen := (len_cons (len_cons len_nil))))))
    (sss_one (ss_ret se_bl))
    sss_nil)
    (sss_one (ss_ret (se_call rfl (fx.c__law_same _ hr) (sa_cons (se_call rfl (fx.c_words _ hr) (sa_cons (se_var (i := 2) rfl (vis1 (by kernel_rfl))) sa_nil) rfl (hlen := (len_cons len_nil))) (sa_cons (se_var (i := 4) rfl (vis1 (by kernel_rfl))) sa_nil)) rfl (hlen := (len_cons (len_cons len_nil)))))))))))))))
theorem sc__law_just_over : FnScope (["size", "pick", "prime", "count", "wide", "rows", "k"] : List Str) (["size", "pick"] : List Str) (defScope (top 41)) := ⟨rfl, rfl, rfl, by decide +kernel, rfl, by decide +kernel, by decide +kernel⟩
theorem der__law_just_over (fx : Fx P w K mg base n) (cdv : Value) (A : Around) (outer : List Env) (s : Shared) (H : Hp) (E : XK) (f : Addr) (hr : Room (2 * n + 1) (A.deeper (envOfC "_law_just_over" (defScope (top 41)) s.heap.objs.size f cdv))) :
    SSs (cxOf (L2.CX P w) P w K mg base (["size", "pick", "prime", "count", "wide", "rows", "k"] : List Str) "_law_just_over" (defScope (top 41)) f cdv A outer s H E) (defBody (top 41)) (B__law_just_over (callF tb n)) :=
    (sss_cons (ss_setT (sd_v (se_ix (se_lst (sds_cons (se_tup (sds_cons se_int (sds_cons se_int sds_nil))) (sds_cons (se_tup (sds_cons se_int (sds_cons se_int sds_nil))) (sds_cons (se_tup (sds_cons se_int (sds_cons se_int sds_nil))) sds_nil)))) (se_var (i := 1) rfl (vis1 (by kernel_rfl))))) (sg_tup rfl (sgs_cons (sg_nm sc__law_just_over.nd rfl (loc2 (by kernel_rfl)) (.inl (by kernel_rfl))) (sgs_cons (sg_nm sc__law_just_over.nd rfl (loc1 (by kernel_rfl)) (.inr (by kernel_rfl))) sgs_nil))))
    (sss_cons (ss_set (i := 4) sc__law_just_over.nd rfl (loc2 (by kernel_rfl)) (se_blt (call_max2 rfl) fits_max2 rfl fx.b_max boot_max (sa_cons (se_var (i := 0) rfl (vis1 (by kernel_rfl))) (sa_cons (se_var (i := 3) rfl (vis1 (by kernel_rfl))) sa_nil))) rfl (.inl (by kernel_rfl)))
    (sss_cons (ss_setLc (i := 5) (own := [("k", 6)]) rfl sc__law_just_over.nd rfl (by kernel_rfl) rfl (si_rg1 rfl fx.b_range (se_var (i := 3) rfl (vis1 (by kernel_rfl)))) (blkB_ok (by kernel_rfl)) (fun s H C cl fp => (sn_nm sc__law_just_over.nd rfl (loc1 (by kernel_rfl)) (.inr (by kernel_rfl)))) (fun s H C cl fp => sc_nil) (fun s H C cl fp => (se_call rfl (fx.c__law_wide _ hr) (sa_cons se_int (sa_cons (se_var (i := 6) rfl (vis1 (by kernel_rfl))) (sa_cons (se_var (i := 2) rfl (vis2 (by kernel_rfl))) (sa_cons (se_var (i := 4) rfl (vis2 (by kernel_rfl))) sa_nil)))) rfl (hlen := (len_cons (len_cons (len_cons (len_cons len_nil))))))))
    (sss_one (ss_ret (se_call rfl (fx.c__law_refused _ hr) (sa_cons (se_make rfl (fx.m_Table _ hr) (sa_cons (se_frz (i := 2) rfl (vis2 (by kernel_rfl))) (sa_cons (se_var (i := 5) rfl (vis1 (by kernel_rfl))) sa_nil)) rfl (hlen := (len_cons (len_cons len_nil)))) sa_nil) rfl (hlen := (len_cons len_nil))))))))
theorem sc_law : FnScope (["script", "prime", "rows", "size", "cell", "many", "k", "entry"] : List Str) (["script"] : List Str) (defScope (top 42)) := ⟨rfl, rfl, rfl, by decide +kernel, rfl, by decide +kernel, by decide +kernel⟩
theorem der_law (fx : Fx P w K mg base n) (cdv : Value) (A : Around) (outer : List Env) (s : Shared) (H : Hp) (E : XK) (f : Addr) (hr : Room (2 * n + 1) (A.deeper (envOfC "law" (defScope (top 42)) s.heap.objs.size f cdv))) :
    SSs (cxOf (L2.CX P w) P w K mg base (["script", "prime", "rows", "size", "cell", "many", "k", "entry"] : List Str) "law" (defScope (top 42)) f cdv A outer s H E) (defBody (top 42)) (B_law (callF tb n)) :=
    (sss_cons (ss_setT (sd_v (se_call rfl (fx.c__law_list _ hr) (sa_cons (se_var (i := 0) rfl (vis1 (by kernel_rfl))) sa_nil) rfl (hlen := (len_cons len_nil)))) (sg_tup rfl (sgs_cons (sg_nm sc_law.nd rfl (loc1 (by kernel_rfl)) (.inr (by kernel_rfl))) (sgs_cons (sg_nm sc_law.nd rfl (loc1 (by kernel_rfl)) (.inr (by kernel_rfl))) sgs_nil))))
    (sss_cons (ss_if (st_not (st_tr (se_call rfl (fx.c__law_holds _ hr) (sa_cons (se_frz (i := 1) rfl (vis1 (by kernel_rfl))) (sa_cons (se_var (i := 2) rfl (vis1 (by kernel_rfl))) sa_nil)) rfl (hlen := (len_cons (len_cons len_nil))))))
    (sss_one (ss_ret se_bl))
    sss_nil)
    (sss_cons (ss_set (i := 3) sc_law.nd rfl (loc1 (by kernel_rfl)) (se_blt call_len fits_len rfl fx.b_len boot_len (sa_cons (se_ix (se_var (i := 2) rfl (vis1 (by kernel_rfl))) se_int) sa_nil)) rfl (.inr (by kernel_rfl)))
    (sss_cons (ss_set (i := 4) sc_law.nd rfl (loc2 (by kernel_rfl)) (se_call rfl (fx.c__law_cell _ hr) (sa_cons (se_var (i := 0) rfl (vis1 (by kernel_rfl))) (sa_cons se_int sa_nil)) rfl (hlen := (len_cons (len_cons len_nil)))) rfl (.inl (by kernel_rfl)))
    (sss_cons (ss_set (i := 5) sc_law.nd rfl (loc1 (by kernel_rfl)) (se_lst sds_nil) rfl (.inr (by kernel_rfl)))
    (sss_cons (ss_for (passes_of rfl) rfl (si_rg1 rfl fx.b_range se_int) (sg_nm sc_law.nd rfl (loc2 (by kernel_rfl)) (.inl (by kernel_rfl)))
    (sss_one (ss_app (i := 5) rfl (vis1 (by kernel_rfl)) (se_lc (own := [("entry", 7)]) rfl sc_law.nd (si_seq (se_ix (se_var (i := 2) rfl (vis1 (by kernel_rfl))) se_int)) (blkB_ok (by kernel_rfl)) (fun s H C cl fp => (sn_nm sc_law.nd rfl (loc1 (by kernel_rfl)) (.inr (by kernel_rfl)))) (fun s H C cl fp => sc_nil) (fun s H C cl fp => (se_bin op_modN fits_mod (se_bltT call_intA fits_int rfl fx.b_int boot_int (sa_cons (se_bin op_mulA fits_mul (se_bin op_addA fits_add (se_bin op_addA fits_add (se_var (i := 6) rfl (vis2 (by kernel_rfl))) se_int) (se_var (i := 4) rfl (vis2 (by kernel_rfl)))) (se_var (i := 7) rfl (vis1 (by kernel_rfl)))) sa_nil)) se_int))))))
    (sss_cons (ss_if (st_w (sw_or (st_not (st_tr (se_call rfl (fx.c__law_holds _ hr) (sa_cons se_int (sa_cons (se_var (i := 5) rfl (vis1 (by kernel_rfl))) sa_nil)) rfl (hlen := (len_cons (len_cons len_nil)))))) (sw_or1 (st_not (st_tr (se_call rfl (fx.c__law_holds _ hr) (sa_cons (se_frz (i := 1) rfl (vis1 (by kernel_rfl))) (sa_cons (se_lst (sds_cons (se_bin op_mulA fits_mul (se_lst (sds_cons se_int sds_nil)) (se_var (i := 3) rfl (vis1 (by kernel_rfl)))) sds_nil)) sa_nil)) rfl (hlen := (len_cons (len_cons len_nil)))))))))
    (sss_one (ss_ret se_bl))
    sss_nil)
    (sss_one (ss_ret (se_call rfl (fx.c__law_just_over _ hr) (sa_cons (se_var (i := 3) rfl (vis1 (by kernel_rfl))) (sa_cons (se_bin op_modN fits_mod (se_bltT call_intA fits_int rfl fx.b_int boot_int (sa_cons (se_bin op_fdivA fits_fdiv (se_var (i := 4) rfl (vis2 (by kernel_rfl))) se_int) sa_nil)) se_int) sa_nil)) rfl (hlen := (len_cons (len_cons len_nil)))))))))))))
end
def dd_Table : He.DefD := ⟨("Table", some "__init__"), "__init__", "Table.__init__", defArgs (inCls 15 0), defBody (inCls 15 0), defScope (inCls 15 0), [], []⟩
def dd__pivot : He.DefD := ⟨("_pivot", none), "_pivot", "_pivot", defArgs (top 19), defBody (top 19), defScope (top 19), [], []⟩
def dd__lead_rows : He.DefD := ⟨("_lead_rows", none), "_lead_rows", "_lead_rows", defArgs (top 20), defBody (top 20), defScope (top 20), [], []⟩
def dd__table_or_zeros : He.DefD := ⟨("_table_or_zeros", none), "_table_or_zeros", "_table_or_zeros", defArgs (top 21), defBody (top 21), defScope (top 21), [], []⟩
def dd_reduced : He.DefD := ⟨("reduced", none), "reduced", "reduced", defArgs (top 22), defBody (top 22), defScope (top 22), [], []⟩
def dd_words : He.DefD := ⟨("words", none), "words", "words", defArgs (top 23), defBody (top 23), defScope (top 23), [], []⟩
def dd__plus : He.DefD := ⟨("_plus", none), "_plus", "_plus", defArgs (top 24), defBody (top 24), defScope (top 24), [], []⟩
def dd_weight_counts : He.DefD := ⟨("weight_counts", none), "weight_counts", "weight_counts", defArgs (top 25), defBody (top 25), defScope (top 25), [], []⟩
def dd__law_cell : He.DefD := ⟨("_law_cell", none), "_law_cell", "_law_cell", defArgs (top 27), defBody (top 27), defScope (top 27), [], []⟩
def dd__law_alike : He.DefD := ⟨("_law_alike", none), "_law_alike", "_law_alike", defArgs (top 28), defBody (top 28), defScope (top 28), [], []⟩
def dd__law_digits : He.DefD := ⟨("_law_digits", none), "_law_digits", "_law_digits", defArgs (top 29), defBody (top 29), defScope (top 29), [], []⟩
def dd__law_bit : He.DefD := ⟨("_law_bit", none), "_law_bit", "_law_bit", defArgs (top 30), defBody (top 30), defScope (top 30), [], []⟩
def dd__law_drawn : He.DefD := ⟨("_law_drawn", none), "_law_drawn", "_law_drawn", defArgs (top 31), defBody (top 31), defScope (top 31), [], []⟩
def dd__law_wide : He.DefD := ⟨("_law_wide", none), "_law_wide", "_law_wide", defArgs (top 32), defBody (top 32), defScope (top 32), [], []⟩
def dd__law_list : He.DefD := ⟨("_law_list", none), "_law_list", "_law_list", defArgs (top 33), defBody (top 33), defScope (top 33), [], []⟩
def dd__law_plus : He.DefD := ⟨("_law_plus", none), "_law_plus", "_law_plus", defArgs (top 34), defBody (top 34), defScope (top 34), [], []⟩
def dd__law_span : He.DefD := ⟨("_law_span", none), "_law_span", "_law_span", defArgs (top 35), defBody (top 35), defScope (top 35), [], []⟩
def dd__law_same : He.DefD := ⟨("_law_same", none), "_law_same", "_law_same", defArgs (top 36), defBody (top 36), defScope (top 36), [], []⟩
def dd__law_counts : He.DefD := ⟨("_law_counts", none), "_law_counts", "_law_counts", defArgs (top 37), defBody (top 37), defScope (top 37), [], []⟩
def dd__law_fate : He.DefD := ⟨("_law_fate", none), "_law_fate", "_law_fate", defArgs (top 38), defBody (top 38), defScope (top 38), [], []⟩
def dd__law_refused : He.DefD := ⟨("_law_refused", none), "_law_refused", "_law_refused", defArgs (top 39), defBody (top 39), defScope (top 39), [], []⟩
def dd__law_holds : He.DefD := ⟨("_law_holds", none), "_law_holds", "_law_holds", defArgs (top 40), defBody (top 40), defScope (top 40), [], []⟩
def dd__law_just_over : He.DefD := ⟨("_law_just_over", none), "_law_just_over", "_law_just_over", defArgs (top 41), defBody (top 41), defScope (top 41), [], []⟩
def dd_law : He.DefD := ⟨("law", none), "law", "law", defArgs (top 42), defBody (top 42), defScope (top 42), [], []⟩
def fnL : List He.DefD := [dd_Table, dd__pivot, dd__lead_rows, dd__table_or_zeros, dd_reduced, dd_words, dd__plus, dd_weight_counts, dd__law_cell, dd__law_alike, dd__law_digits, dd__law_bit, dd__law_drawn, dd__law_wide, dd__law_list, dd__law_plus, dd__law_span, dd__law_same, dd__law_counts, dd__law_fate, dd__law_refused, dd__law_holds, dd__law_just_over, dd_law]
def faL : List He.Fa := [.glo ("Table" : Str),
  .glo ("_pivot" : Str),
  .glo ("_lead_rows" : Str),
  .glo ("_table_or_zeros" : Str),
  .glo ("reduced" : Str),
  .glo ("words" : Str),
  .glo ("_plus" : Str),
  .glo ("weight_counts" : Str),
  .glo ("_law_cell" : Str),
  .glo ("_law_alike" : Str),
  .glo ("_law_digits" : Str),
  .glo ("_law_bit" : Str),
  .glo ("_law_drawn" : Str),
  .glo ("_law_wide" : Str),
  .glo ("_law_list" : Str),
  .glo ("_law_plus" : Str),
  .glo ("_law_span" : Str),
  .glo ("_law_same" : Str),
  .glo ("_law_counts" : Str),
  .glo ("_law_fate" : Str),
  .glo ("_law_refused" : Str),
  .glo ("_law_holds" : Str),
  .glo ("_law_just_over" : Str),
  .glo ("law" : Str),
  .free ("len" : Str),
  .free ("range" : Str),
  .free ("int" : Str),
  .free ("list" : Str),
  .mkr ("Table" : Str),
  .free ("tuple" : Str),
  .cls ("Table" : Str),
  .noat ("Table" : Str) ("rows" : Str),
  .free ("abs" : Str),
  .free ("max" : Str),
  .glo ("BadRows" : Str),
  .exc ("BadRows" : Str),
  .glo ("TooLarge" : Str),
  .exc ("TooLarge" : Str),
  .noat ("Table" : Str) ("prime" : Str),
  .noat ("Table" : Str) ("size" : Str),
  .free ("str" : Str),
  .noat ("Table" : Str) ("text" : Str),
  .free ("sorted" : Str),
  .free ("isinstance" : Str),
  .free ("bool" : Str),
  .glo ("StrikejoinError" : Str),
  .free ("ValueError" : Str),
  .free ("zip" : Str),
  .free ("enumerate" : Str)]
def exB (K : PySem.W.Frag) : Bool := cstB K ("PRIMES" : Str) (.tup [(.int 2), (.int 3), (.int 5), (.int 7)]) && (cstB K ("MOST_ROWS" : Str) (.int 10) && (cstB K ("MOST_COLUMNS" : Str) (.int 10) && (cstB K ("MOST_WORDS" : Str) (.int 2500) && (suB K (.own ("StrikejoinError" : Str)) [("BadRows", true), ("TooLarge", true)] && (isB K (.own ("TooLarge" : Str)) [("BadRows", false), ("TooLarge", true)] && (isB K (.ty "ValueError") [("BadRows", true), ("TooLarge", true)] && (isB K (.own ("BadRows" : Str)) [("BadRows", true), ("TooLarge", false)] && (dctB K ("INVERSES" : Str) [(2, (.tup [(.int 0), (.int 1)])), (3, (.tup [(.int 0), (.int 1), (.int 2)])), (5, (.tup [(.int 0), (.int 1), (.int 3), (.int 2), (.int 4)])), (7, (.tup [(.int 0), (.int 1), (.int 4), (.int 5), (.int 2), (.int 3), (.int 6)]))] && (true)))))))))
structure ExK (K : PySem.W.Frag) : Prop where
  any : True
  k_PRIMES : cstB K ("PRIMES" : Str) (.tup [(.int 2), (.int 3), (.int 5), (.int 7)]) = true
  k_MOST_ROWS : cstB K ("MOST_ROWS" : Str) (.int 10) = true
  k_MOST_COLUMNS : cstB K ("MOST_COLUMNS" : Str) (.int 10) = true
  k_MOST_WORDS : cstB K ("MOST_WORDS" : Str) (.int 2500) = true
  s_StrikejoinError : suB K (.own ("StrikejoinError" : Str)) [("BadRows", true), ("TooLarge", true)] = true
  i_TooLarge : isB K (.own ("TooLarge" : Str)) [("BadRows", false), ("TooLarge", true)] = true
  i_ValueError : isB K (.ty "ValueError") [("BadRows", true), ("TooLarge", true)] = true
  i_BadRows : isB K (.own ("BadRows" : Str)) [("BadRows", true), ("TooLarge", false)] = true
  d_INVERSES : dctB K ("INVERSES" : Str) [(2, (.tup [(.int 0), (.int 1)])), (3, (.tup [(.int 0), (.int 1), (.int 2)])), (5, (.tup [(.int 0), (.int 1), (.int 3), (.int 2), (.int 4)])), (7, (.tup [(.int 0), (.int 1), (.int 4), (.int 5), (.int 2), (.int 3), (.int 6)]))] = true
abbrev Sx (K : PySem.W.Frag) : Prop := SaysL faL fnL exB K
section
variable {P : Program} {w : World} {K : PySem.W.Frag} {mg : Str → Option Value} {base h : Heap} {n : Nat}
theorem exc (c : Sx K) : ExK K := by
  have q := c.more
  unfold exB at q
  simp only [Bool.and_eq_true] at q
  exact ⟨trivial, q.1, q.2.1, q.2.2.1, q.2.2.2.1, q.2.2.2.2.1, q.2.2.2.2.2.1, q.2.2.2.2.2.2.1, q.2.2.2.2.2.2.2.1, q.2.2.2.2.2.2.2.2.1⟩
theorem glo1 (c : Sx K) (I : K.In h) (G : h.Ns mainGlobals mg) (x : Str) (hx : x ∈ (["BadRows", "TooLarge"] : List Str)) : mg x = some (.ref (He.ga K x)) := by
  simp only [List.mem_cons, List.not_mem_nil, or_false] at hx
  rcases hx with rfl | rfl
  · exact He.glo_ok I G (c.d.fact 34 (f := .glo ("BadRows" : Str)) rfl)
  · exact He.glo_ok I G (c.d.fact 36 (f := .glo ("TooLarge" : Str)) rfl)
theorem mk (c : Sx K) (I : K.In h) (G : h.Ns mainGlobals mg) (n : Nat) (ih : ∀ m, n = m + 1 → Fx P w K mg base m) : Fx P w K mg base n where
  c__law_list := cOk_all (d := FI__law_list) (c.d.defs (d := dd__law_list) (by simp [fnL])) sc__law_list rfl rfl tb__law_list (He.glo_ok I G (c.d.fact 14 (f := .glo ("_law_list" : Str)) rfl)) (fun fd Fd => Fd.bindsN fun _ _ _ _ _ _ us hl => match us, hl with | [_], _ => rfl) rfl (fun m e cdv A outer s H E hr => der__law_list (ih m e) cdv A outer s H E _ hr)
  c__law_holds := cOk_all (d := FI__law_holds) (c.d.defs (d := dd__law_holds) (by simp [fnL])) sc__law_holds rfl rfl tb__law_holds (He.glo_ok I G (c.d.fact 21 (f := .glo ("_law_holds" : Str)) rfl)) (fun fd Fd => Fd.bindsN fun _ _ _ _ _ _ us hl => match us, hl with | [_, _], _ => rfl) rfl (fun m e cdv A outer s H E hr => der__law_holds (ih m e) cdv A outer s H E _ hr)
  b_len := (He.free_ok I G (c.d.fact 24 (f := .free ("len" : Str)) rfl))
  c__law_cell := cOk_all (d := FI__law_cell) (c.d.defs (d := dd__law_cell) (by simp [fnL])) sc__law_cell rfl rfl tb__law_cell (He.glo_ok I G (c.d.fact 8 (f := .glo ("_law_cell" : Str)) rfl)) (fun fd Fd => Fd.bindsN fun _ _ _ _ _ _ us hl => match us, hl with | [_, _], _ => rfl) rfl (fun m e cdv A outer s H E hr => der__law_cell (ih m e) cdv A outer s H E _ hr)
  b_range := (He.free_ok I G (c.d.fact 25 (f := .free ("range" : Str)) rfl))
  b_int := (He.free_ok I G (c.d.fact 26 (f := .free ("int" : Str)) rfl))
  c__law_just_over := cOk_all (d := FI__law_just_over) (c.d.defs (d := dd__law_just_over) (by simp [fnL])) sc__law_just_over rfl rfl tb__law_just_over (He.glo_ok I G (c.d.fact 22 (f := .glo ("_law_just_over" : Str)) rfl)) (fun fd Fd => Fd.bindsN fun _ _ _ _ _ _ us hl => match us, hl with | [_, _], _ => rfl) rfl (fun m e cdv A outer s H E hr => der__law_just_over (ih m e) cdv A outer s H E _ hr)
  c__law_wide := cOk_all (d := FI__law_wide) (c.d.defs (d := dd__law_wide) (by simp [fnL])) sc__law_wide rfl rfl tb__law_wide (He.glo_ok I G (c.d.fact 13 (f := .glo ("_law_wide" : Str)) rfl)) (fun fd Fd => Fd.bindsN fun _ _ _ _ _ _ us hl => match us, hl with | [_, _, _, _], _ => rfl) rfl (fun m e cdv A outer s H E hr => der__law_wide (ih m e) cdv A outer s H E _ hr)
  c__law_drawn := cOk_all (d := FI__law_drawn) (c.d.defs (d := dd__law_drawn) (by simp [fnL])) sc__law_drawn rfl rfl tb__law_drawn (He.glo_ok I G (c.d.fact 12 (f := .glo ("_law_drawn" : Str)) rfl)) (fun fd Fd => Fd.bindsN fun _ _ _ _ _ _ us hl => match us, hl with | [_, _, _, _], _ => rfl) rfl (fun m e cdv A outer s H E hr => der__law_drawn (ih m e) cdv A outer s H E _ hr)
  b_list := (He.free_ok I G (c.d.fact 27 (f := .free ("list" : Str)) rfl))
  m_Table := mOk_all (d := FI_Table) (c.d.defs (d := dd_Table) (by simp [fnL])) sc_Table rfl rfl tb_Table (He.glo_ok I G (c.d.fact 0 (f := .glo ("Table" : Str)) rfl)) (He.mkr_ok (c.d.fact 28 (f := .mkr ("Table" : Str)) rfl)) (fun fd Fd => Fd.bindsN fun _ _ _ _ _ _ us hl => match us, hl with | [_, _, _], _ => rfl) rfl (fun m e cdv A outer s H E hr => der_Table (ih m e) cdv A outer s H E _ hr)
  c__law_span := cOk_all (d := FI__law_span) (c.d.defs (d := dd__law_span) (by simp [fnL])) sc__law_span rfl rfl tb__law_span (He.glo_ok I G (c.d.fact 16 (f := .glo ("_law_span" : Str)) rfl)) (fun fd Fd => Fd.bindsN fun _ _ _ _ _ _ us hl => match us, hl with | [_, _], _ => rfl) rfl (fun m e cdv A outer s H E hr => der__law_span (ih m e) cdv A outer s H E _ hr)
  c__law_refused := cOk_all (d := FI__law_refused) (c.d.defs (d := dd__law_refused) (by simp [fnL])) sc__law_refused rfl rfl tb__law_refused (He.glo_ok I G (c.d.fact 20 (f := .glo ("_law_refused" : Str)) rfl)) (fun fd Fd => Fd.bindsN fun _ _ _ _ _ _ us hl => match us, hl with | [_], _ => rfl) rfl (fun m e cdv A outer s H E hr => der__law_refused (ih m e) cdv A outer s H E _ hr)
  c_words := cOk_all (d := FI_words) (c.d.defs (d := dd_words) (by simp [fnL])) sc_words rfl rfl tb_words (He.glo_ok I G (c.d.fact 5 (f := .glo ("words" : Str)) rfl)) (fun fd Fd => Fd.bindsN fun _ _ _ _ _ _ us hl => match us, hl with | [_], _ => rfl) rfl (fun m e cdv A outer s H E hr => der_words (ih m e) cdv A outer s H E _ hr)
  c__law_same := cOk_all (d := FI__law_same) (c.d.defs (d := dd__law_same) (by simp [fnL])) sc__law_same rfl rfl tb__law_same (He.glo_ok I G (c.d.fact 17 (f := .glo ("_law_same" : Str)) rfl)) (fun fd Fd => Fd.bindsN fun _ _ _ _ _ _ us hl => match us, hl with | [_, _], _ => rfl) rfl (fun m e cdv A outer s H E hr => der__law_same (ih m e) cdv A outer s H E _ hr)
  c__law_counts := cOk_all (d := FI__law_counts) (c.d.defs (d := dd__law_counts) (by simp [fnL])) sc__law_counts rfl rfl tb__law_counts (He.glo_ok I G (c.d.fact 18 (f := .glo ("_law_counts" : Str)) rfl)) (fun fd Fd => Fd.bindsN fun _ _ _ _ _ _ us hl => match us, hl with | [_, _], _ => rfl) rfl (fun m e cdv A outer s H E hr => der__law_counts (ih m e) cdv A outer s H E _ hr)
  c_weight_counts := cOk_all (d := FI_weight_counts) (c.d.defs (d := dd_weight_counts) (by simp [fnL])) sc_weight_counts rfl rfl tb_weight_counts (He.glo_ok I G (c.d.fact 7 (f := .glo ("weight_counts" : Str)) rfl)) (fun fd Fd => Fd.bindsN fun _ _ _ _ _ _ us hl => match us, hl with | [_], _ => rfl) rfl (fun m e cdv A outer s H E hr => der_weight_counts (ih m e) cdv A outer s H E _ hr)
  c__law_alike := cOk_all (d := FI__law_alike) (c.d.defs (d := dd__law_alike) (by simp [fnL])) sc__law_alike rfl rfl tb__law_alike (He.glo_ok I G (c.d.fact 9 (f := .glo ("_law_alike" : Str)) rfl)) (fun fd Fd => Fd.bindsN fun _ _ _ _ _ _ us hl => match us, hl with | [_, _], _ => rfl) rfl (fun m e cdv A outer s H E hr => der__law_alike (ih m e) cdv A outer s H E _ hr)
  b_tuple := (He.free_ok I G (c.d.fact 29 (f := .free ("tuple" : Str)) rfl))
  o_rows := (fun A c' C hc hm => by
      simp only [List.mem_cons, List.not_mem_nil, or_false] at hc
      rcases hc with rfl
      · cases (He.glo_ok I G (c.d.fact 0 (f := .glo ("Table" : Str)) rfl)).symm.trans hm; exact ⟨He.cls_ok (c.d.fact 30 (f := .cls ("Table" : Str)) rfl), He.noat_ok (c.d.fact 31 (f := .noat ("Table" : Str) ("rows" : Str)) rfl)⟩)
  c_reduced := cOk_all (d := FI_reduced) (c.d.defs (d := dd_reduced) (by simp [fnL])) sc_reduced rfl rfl tb_reduced (He.glo_ok I G (c.d.fact 4 (f := .glo ("reduced" : Str)) rfl)) (fun fd Fd => Fd.bindsN fun _ _ _ _ _ _ us hl => match us, hl with | [_], _ => rfl) rfl (fun m e cdv A outer s H E hr => der_reduced (ih m e) cdv A outer s H E _ hr)
  b_abs := (He.free_ok I G (c.d.fact 32 (f := .free ("abs" : Str)) rfl))
  b_max := (He.free_ok I G (c.d.fact 33 (f := .free ("max" : Str)) rfl))
  c__law_digits := cOk_all (d := FI__law_digits) (c.d.defs (d := dd__law_digits) (by simp [fnL])) sc__law_digits rfl rfl tb__law_digits (He.glo_ok I G (c.d.fact 10 (f := .glo ("_law_digits" : Str)) rfl)) (fun fd Fd => Fd.bindsN fun _ _ _ _ _ _ us hl => match us, hl with | [_, _, _], _ => rfl) rfl (fun m e cdv A outer s H E hr => der__law_digits (ih m e) cdv A outer s H E _ hr)
  c__law_bit := cOk_all (d := FI__law_bit) (c.d.defs (d := dd__law_bit) (by simp [fnL])) sc__law_bit rfl rfl tb__law_bit (He.glo_ok I G (c.d.fact 11 (f := .glo ("_law_bit" : Str)) rfl)) (fun fd Fd => Fd.bindsN fun _ _ _ _ _ _ us hl => match us, hl with | [_, _], _ => rfl) rfl (fun m e cdv A outer s H E hr => der__law_bit (ih m e) cdv A outer s H E _ hr)
  k_PRIMES := (cst_ok I G (exc c).k_PRIMES)
  e_BadRows := (fun A => ⟨_, He.glo_ok I G (c.d.fact 34 (f := .glo ("BadRows" : Str)) rfl), He.exc_ok (c.d.fact 35 (f := .exc ("BadRows" : Str)) rfl)⟩)
  g_BadRows := (He.glo_ok I G (c.d.fact 34 (f := .glo ("BadRows" : Str)) rfl))
  k_MOST_ROWS := (cst_ok I G (exc c).k_MOST_ROWS)
  k_MOST_COLUMNS := (cst_ok I G (exc c).k_MOST_COLUMNS)
  e_TooLarge := (fun A => ⟨_, He.glo_ok I G (c.d.fact 36 (f := .glo ("TooLarge" : Str)) rfl), He.exc_ok (c.d.fact 37 (f := .exc ("TooLarge" : Str)) rfl)⟩)
  g_TooLarge := (He.glo_ok I G (c.d.fact 36 (f := .glo ("TooLarge" : Str)) rfl))
  p_Table_prime := (fun A c' C hc hm => by
      simp only [List.mem_cons, List.not_mem_nil, or_false] at hc
      rcases hc with rfl
      · cases (He.glo_ok I G (c.d.fact 0 (f := .glo ("Table" : Str)) rfl)).symm.trans hm; exact ⟨He.cls_ok (c.d.fact 30 (f := .cls ("Table" : Str)) rfl), He.noat_ok (c.d.fact 38 (f := .noat ("Table" : Str) ("prime" : Str)) rfl)⟩)
  p_Table_size := (fun A c' C hc hm => by
      simp only [List.mem_cons, List.not_mem_nil, or_false] at hc
      rcases hc with rfl
      · cases (He.glo_ok I G (c.d.fact 0 (f := .glo ("Table" : Str)) rfl)).symm.trans hm; exact ⟨He.cls_ok (c.d.fact 30 (f := .cls ("Table" : Str)) rfl), He.noat_ok (c.d.fact 39 (f := .noat ("Table" : Str) ("size" : Str)) rfl)⟩)
  p_Table_rows := (fun A c' C hc hm => by
      simp only [List.mem_cons, List.not_mem_nil, or_false] at hc
      rcases hc with rfl
      · cases (He.glo_ok I G (c.d.fact 0 (f := .glo ("Table" : Str)) rfl)).symm.trans hm; exact ⟨He.cls_ok (c.d.fact 30 (f := .cls ("Table" : Str)) rfl), He.noat_ok (c.d.fact 31 (f := .noat ("Table" : Str) ("rows" : Str)) rfl)⟩)
  b_str := (He.free_ok I G (c.d.fact 40 (f := .free ("str" : Str)) rfl))
  p_Table_text := (fun A c' C hc hm => by
      simp only [List.mem_cons, List.not_mem_nil, or_false] at hc
      rcases hc with rfl
      · cases (He.glo_ok I G (c.d.fact 0 (f := .glo ("Table" : Str)) rfl)).symm.trans hm; exact ⟨He.cls_ok (c.d.fact 30 (f := .cls ("Table" : Str)) rfl), He.noat_ok (c.d.fact 41 (f := .noat ("Table" : Str) ("text" : Str)) rfl)⟩)
  o_prime := (fun A c' C hc hm => by
      simp only [List.mem_cons, List.not_mem_nil, or_false] at hc
      rcases hc with rfl
      · cases (He.glo_ok I G (c.d.fact 0 (f := .glo ("Table" : Str)) rfl)).symm.trans hm; exact ⟨He.cls_ok (c.d.fact 30 (f := .cls ("Table" : Str)) rfl), He.noat_ok (c.d.fact 38 (f := .noat ("Table" : Str) ("prime" : Str)) rfl)⟩)
  o_size := (fun A c' C hc hm => by
      simp only [List.mem_cons, List.not_mem_nil, or_false] at hc
      rcases hc with rfl
      · cases (He.glo_ok I G (c.d.fact 0 (f := .glo ("Table" : Str)) rfl)).symm.trans hm; exact ⟨He.cls_ok (c.d.fact 30 (f := .cls ("Table" : Str)) rfl), He.noat_ok (c.d.fact 39 (f := .noat ("Table" : Str) ("size" : Str)) rfl)⟩)
  c__law_plus := cOk_all (d := FI__law_plus) (c.d.defs (d := dd__law_plus) (by simp [fnL])) sc__law_plus rfl rfl tb__law_plus (He.glo_ok I G (c.d.fact 15 (f := .glo ("_law_plus" : Str)) rfl)) (fun fd Fd => Fd.bindsN fun _ _ _ _ _ _ us hl => match us, hl with | [_, _, _, _], _ => rfl) rfl (fun m e cdv A outer s H E hr => der__law_plus (ih m e) cdv A outer s H E _ hr)
  b_sorted := (He.free_ok I G (c.d.fact 42 (f := .free ("sorted" : Str)) rfl))
  c__law_fate := cOk_all (d := FI__law_fate) (c.d.defs (d := dd__law_fate) (by simp [fnL])) sc__law_fate rfl rfl tb__law_fate (He.glo_ok I G (c.d.fact 19 (f := .glo ("_law_fate" : Str)) rfl)) (fun fd Fd => Fd.bindsN fun _ _ _ _ _ _ us hl => match us, hl with | [_, _], _ => rfl) rfl (fun m e cdv A outer s H E hr => der__law_fate (ih m e) cdv A outer s H E _ hr)
  c__lead_rows := cOk_all (d := FI__lead_rows) (c.d.defs (d := dd__lead_rows) (by simp [fnL])) sc__lead_rows rfl rfl tb__lead_rows (He.glo_ok I G (c.d.fact 2 (f := .glo ("_lead_rows" : Str)) rfl)) (fun fd Fd => Fd.bindsN fun _ _ _ _ _ _ us hl => match us, hl with | [_], _ => rfl) rfl (fun m e cdv A outer s H E hr => der__lead_rows (ih m e) cdv A outer s H E _ hr)
  k_MOST_WORDS := (cst_ok I G (exc c).k_MOST_WORDS)
  c__plus := cOk_all (d := FI__plus) (c.d.defs (d := dd__plus) (by simp [fnL])) sc__plus rfl rfl tb__plus (He.glo_ok I G (c.d.fact 6 (f := .glo ("_plus" : Str)) rfl)) (fun fd Fd => Fd.bindsN fun _ _ _ _ _ _ us hl => match us, hl with | [_, _, _, _], _ => rfl) rfl (fun m e cdv A outer s H E hr => der__plus (ih m e) cdv A outer s H E _ hr)
  b_isinstance := (He.free_ok I G (c.d.fact 43 (f := .free ("isinstance" : Str)) rfl))
  b_bool := (He.free_ok I G (c.d.fact 44 (f := .free ("bool" : Str)) rfl))
  c__table_or_zeros := cOk_all (d := FI__table_or_zeros) (c.d.defs (d := dd__table_or_zeros) (by simp [fnL])) sc__table_or_zeros rfl rfl tb__table_or_zeros (He.glo_ok I G (c.d.fact 3 (f := .glo ("_table_or_zeros" : Str)) rfl)) (fun fd Fd => Fd.bindsN fun _ _ _ _ _ _ us hl => match us, hl with | [_, _], _ => rfl) rfl (fun m e cdv A outer s H E hr => der__table_or_zeros (ih m e) cdv A outer s H E _ hr)
  g_StrikejoinError := (He.glo_ok I G (c.d.fact 45 (f := .glo ("StrikejoinError" : Str)) rfl))
  s_StrikejoinError := (fun A => su_ok (l := [("BadRows", true), ("TooLarge", true)]) (fun p hp => glo1 c I G p.1 ((by decide +kernel : ∀ p ∈ ([("BadRows", true), ("TooLarge", true)] : List (Str × Bool)), p.1 ∈ (["BadRows", "TooLarge"] : List Str)) p hp)) (exc c).s_StrikejoinError)
  i_TooLarge := (fun A => isE_ok (l := [("BadRows", false), ("TooLarge", true)]) (fun p hp => glo1 c I G p.1 ((by decide +kernel : ∀ p ∈ ([("BadRows", false), ("TooLarge", true)] : List (Str × Bool)), p.1 ∈ (["BadRows", "TooLarge"] : List Str)) p hp)) (exc c).i_TooLarge)
  i_ValueError := (fun A => isE_ok (l := [("BadRows", true), ("TooLarge", true)]) (fun p hp => glo1 c I G p.1 ((by decide +kernel : ∀ p ∈ ([("BadRows", true), ("TooLarge", true)] : List (Str × Bool)), p.1 ∈ (["BadRows", "TooLarge"] : List Str)) p hp)) (exc c).i_ValueError)
  b_ValueError := (He.free_ok I G (c.d.fact 46 (f := .free ("ValueError" : Str)) rfl))
  i_BadRows := (fun A => isE_ok (l := [("BadRows", true), ("TooLarge", false)]) (fun p hp => glo1 c I G p.1 ((by decide +kernel : ∀ p ∈ ([("BadRows", true), ("TooLarge", false)] : List (Str × Bool)), p.1 ∈ (["BadRows", "TooLarge"] : List Str)) p hp)) (exc c).i_BadRows)
  c__pivot := cOk_all (d := FI__pivot) (c.d.defs (d := dd__pivot) (by simp [fnL])) sc__pivot rfl rfl tb__pivot (He.glo_ok I G (c.d.fact 1 (f := .glo ("_pivot" : Str)) rfl)) (fun fd Fd => Fd.bindsN fun _ _ _ _ _ _ us hl => match us, hl with | [_, _, _, _], _ => rfl) rfl (fun m e cdv A outer s H E hr => der__pivot (ih m e) cdv A outer s H E _ hr)
  b_zip := (He.free_ok I G (c.d.fact 47 (f := .free ("zip" : Str)) rfl))
  d_INVERSES := (fun A => dct_ok I G (exc c).d_INVERSES)
  b_enumerate := (He.free_ok I G (c.d.fact 48 (f := .free ("enumerate" : Str)) rfl))
theorem all (c : Sx K) (I : K.In h) (G : h.Ns mainGlobals mg) : ∀ n, Fx P w K mg base n
  | 0 => mk c I G 0 fun m e => absurd e (by simp)
  | n + 1 => mk c I G (n + 1) fun m e => by cases e; exact all c I G n
theorem facts (c : Sx K) (I : K.In h) (G : h.Ns mainGlobals mg) (k : Nat) : ∃ fd : FuncData, (∀ (s : Shared) (v : Value), BindsTo s fd ⟨[v], []⟩ [("script", v)]) ∧ ∀ base : Heap, K.In base → base.Ns mainGlobals mg → FnOk P w K mg base (L2.CX P w) (2 * k) (He.ga K "law") fd ["script"] (spF ⟨K, mg, none⟩ (callF tb k "law") 1) := by
  obtain ⟨fd, Fd⟩ := c.d.defs (d := dd_law) (by simp [fnL])
  have b := FunD.bindsA (ps := ["script"]) Fd fun _ _ _ _ _ _ us hl => match us, hl with | [_], _ => rfl
  exact ⟨fd, fun s v => b s [v] rfl, fun base _ _ => fnOk_lv (ps := ["script"]) (d := FI_law) Fd sc_law rfl rfl tb_law k fun m e cdv A outer s H E hr => der_law (all c I G m) cdv A outer s H E _ hr⟩
end
abbrev R : PySem.W.OpenRow := PySem.W.OpenLaw.row PySem.Challenge.rw_strikejoin_k18_words
abbrev hk : PySem.W.Hook := hookL 5 faL fnL exB
def ob (s : PySem.W.SharedT) : AlL := obsL 5 faL fnL exB (HandSHeadRun.getT s)
theorem ob_eq (s : PySem.W.SharedT) : ob s = hk.obs s.abs := obsL_eq (HandSHeadRun.getT_eq s)
def loose : List Str := (["StrikejoinError", "BadText", "TooLarge", "BadPrime", "BadRows", "PRIMES", "MOST_ROWS", "MOST_COLUMNS", "PRIME_WORDS", "DIGITS", "HEADS", "_is_row"] : List Str) ++ ((["_parts_of", "Table", "INVERSES", "MOST_WORDS", "_pivot", "_lead_rows", "_table_or_zeros", "reduced", "words", "_plus", "weight_counts", "_law_cell"] : List Str) ++ ((["_law_alike", "_law_digits", "_law_bit", "_law_drawn", "_law_wide", "_law_list", "_law_plus", "_law_span", "_law_same", "_law_counts", "_law_fate", "_law_refused"] : List Str) ++ ((["_law_holds", "_law_just_over"] : List Str))))
theorem runB (b : Bool) (w : World) : HandSHeadRun.RunEq R (PySem.W.view R.prog [42]) hk ob 60000 loose (w.withFollow "special-get-raises" b) := by
  intro os
  cases b <;> kernel_rfl
theorem run (w : World) : HandSHeadRun.RunEq R (PySem.W.view R.prog [42]) hk ob 60000 loose w :=
  PySem.W.byRow2 "special-get-raises" (P := fun w => HandSHeadRun.RunEq R (PySem.W.view R.prog [42]) hk ob 60000 loose w) (runB false) (runB true) w
end W
end
section
set_option maxRecDepth 100000
/-! E1: k18, what the law's drawing defs give. -/
namespace W
open PySem L2 PyProof.Rows CI
abbrev zD (ns : List Int) : List D := ns.map D.int
def cellF (ns : List Int) (k : Nat) : Int := (ns.getD k 0).natAbs
theorem ev_cell (n : Nat) (ns : List Int) (k : Nat) : callF tb (n + 1) "_law_cell" [.val (.lst (zD ns)), .val (.int k)] = .ok (.val (.int (cellF ns k))) := by
  rw [callF_fn tb__law_cell]
  by_cases h : k < ns.length
  · simp [FI__law_cell, B__law_cell, runFn, h, cellF]
    split <;> omega
  · simp [FI__law_cell, B__law_cell, runFn, h, cellF]
def P4 (n : Nat) : Prop := n = 2 ∨ n = 3 ∨ n = 5 ∨ n = 7
theorem P4.div {n : Nat} (h : P4 n) : divOk (n : Int) = true := by rcases h with rfl | rfl | rfl | rfl <;> decide
theorem P4.ne {n : Nat} (h : P4 n) : n ≠ 0 := by rcases h with rfl | rfl | rfl | rfl <;> decide
theorem P4.pos {n : Nat} (h : P4 n) : (0 : Int) < n := by rcases h with rfl | rfl | rfl | rfl <;> decide
theorem P4.le {n : Nat} (h : P4 n) : n ≤ 7 := by rcases h with rfl | rfl | rfl | rfl <;> decide
theorem P4.inv {n : Nat} (h : P4 n) : LA.Inv n := LA.inv_of h
def digS (c b : Int) : Nat → List Int × Int
  | 0 => ([], c)
  | k + 1 => ((digS c b k).1 ++ [(digS c b k).2 % b], (digS c b k).2 / b)
def digF (c b : Int) (k : Nat) : List Int := (digS c b k).1
theorem dig_len (c b : Int) : ∀ k, (digF c b k).length = k
  | 0 => rfl
  | k + 1 => by
    show ((digS c b k).1 ++ [_]).length = _
    rw [List.length_append]
    have := dig_len c b k
    unfold digF at this
    simp [this]
theorem dig_bd {c b : Int} (hb : 0 < b) : ∀ k, ∀ x ∈ digF c b k, 0 ≤ x ∧ x < b
  | 0, x, h => by cases h
  | k + 1, x, h => by
    have h : x ∈ (digS c b k).1 ++ [(digS c b k).2 % b] := h
    rcases List.mem_append.mp h with h | h
    · exact dig_bd hb k x h
    · obtain rfl : x = _ := by simpa using h
      exact ⟨Int.emod_nonneg _ (by omega), Int.emod_lt_of_pos _ hb⟩
theorem rg_at {k i : Nat} {d : D} (h : (rgD 0 k)[i]? = some d) : i < k ∧ d = .int i := by
  unfold rgD at h
  rw [List.getElem?_map] at h
  by_cases hi : i < k
  · rw [List.getElem?_range hi] at h
    simp at h
    exact ⟨hi, h.symm⟩
  · rw [List.getElem?_eq_none (by simp; omega)] at h
    cases h
theorem rg1_nat {k : Nat} (h : k < 2 ^ 62) : rg1 (.int (k : Int)) = some (rgD 0 k) := by
  have : inRg (k : Int) = true := by unfold inRg; simp; omega
  show (if inRg (k : Int) then some (rgD 0 (k : Int).toNat) else none) = _
  rw [if_pos this]
  simp
theorem dig_loop (c : Int) {p : Nat} (hp : P4 p) (k : Nat) (hk : k < 1000) : ∃ s, forL (tNm 5) (cSeq (cApp 3 (cBin oMod (cBlt (uD gInt) (cCons (cA (cVar 4)) cNil)) (cVar 1))) (cSet 4 (cBin oFdiv (cVar 4) (cVar 1)))) (rgD 0 k) [.val (.int c), .val (.int p), .val (.int k), .own (.lst []), .val (.int c), .emp] =
    .ok .nx [.val (.int c), .val (.int p), .val (.int k), .own (.lst (zD (digF c p k))), .val (.int (digS c p k).2), s] := by
  have hpp := hp.pos
  have hs : sizeLine = 16777216 := sizeLine_eq
  have main := forL_inv (t := tNm 5) (ds := rgD 0 k) (body := (cSeq (cApp 3 (cBin oMod (cBlt (uD gInt) (cCons (cA (cVar 4)) cNil)) (cVar 1))) (cSet 4 (cBin oFdiv (cVar 4) (cVar 1)))))
    (fun i ρ => i ≤ k ∧ ∃ s, ρ = [.val (.int c), .val (.int p), .val (.int k), .own (.lst (zD (digS c p i).1)), .val (.int (digS c p i).2), s]) (i := 0) (ρ := [.val (.int c), .val (.int p), .val (.int k), .own (.lst []), .val (.int c), .emp]) ⟨Nat.zero_le _, _, rfl⟩ fun i d ρ _ hd ⟨hi, s, e⟩ => by
      subst e
      obtain ⟨h1, rfl⟩ := rg_at hd
      have hlen := dig_len c p i
      unfold digF at hlen
      have hl2 : (zD (digS c p i).1).length < sizeLine := by rw [List.length_map, hlen]; omega
      refine ⟨_, _, rfl, ?_, by omega, .val (.int i), rfl⟩
      simp [hp.div, hp.ne, digS, ev_appD hl2, Int.fmod_eq_emod_of_nonneg _ (Int.le_of_lt hpp), Int.fdiv_eq_ediv_of_nonneg _ (Int.le_of_lt hpp)]
  obtain ⟨ρ', e, _, s, e2⟩ := main
  rw [Nat.zero_add, rgD_len] at e2
  exact ⟨s, by rw [e, e2]; rfl⟩
theorem ev_digits (n : Nat) (c : Int) {p : Nat} (hp : P4 p) (k : Nat) (hk : k < 1000) : callF tb (n + 1) "_law_digits" [.val (.int c), .val (.int p), .val (.int k)] = .ok (.own (.lst (zD (digF c p k)))) := by
  obtain ⟨s, e⟩ := dig_loop c hp k hk
  have h2 : rg1 (.int (k : Int)) = some (rgD 0 k) := rg1_nat (by omega)
  rw [call_fn tb__law_digits rfl]
  simp [FI__law_digits, B__law_digits, h2, e]
end W
end
section
set_option maxRecDepth 100000
/-! E2: k18, the rows that the law draws. -/
namespace W
open PySem L2 PyProof.Rows CI
theorem mulOk_small {a b : Int} (h : -100000 < a) (h' : a < 100000) : mulOk a b = true := by
  unfold mulOk smallI
  simp
  left; left; omega
def bitF (at_ k : Nat) : Int := if 3 < at_ then 0 else ((k : Int) + 1) / ([1, 2, 4, 8] : List Int).getD at_ 0 % 2
theorem ev_bit (n : Nat) (a k : Nat) : callF tb (n + 1) "_law_bit" [.val (.int a), .val (.int k)] = .ok (.val (.int (bitF a k))) := by
  rw [call_fn tb__law_bit rfl]
  have hs : sizeLine = 16777216 := sizeLine_eq
  have h4 : sz 4 = true := sz_ok (by omega)
  by_cases h : 3 < a
  · have h' : (3 : Int) < a := by omega
    simp [FI__law_bit, B__law_bit, h, h', bitF]
  · have h' : ¬ (3 : Int) < a := by omega
    have : a = 0 ∨ a = 1 ∨ a = 2 ∨ a = 3 := by omega
    have d1 : divOk 1 = true := by decide
    have d2 : divOk 2 = true := by decide
    have d4 : divOk 4 = true := by decide
    have d8 : divOk 8 = true := by decide
    have f2 : ∀ x : Int, x.fmod 2 = x % 2 := fun x => Int.fmod_eq_emod_of_nonneg x (by decide)
    have g1 : ∀ x : Int, x.fdiv 1 = x / 1 := fun x => Int.fdiv_eq_ediv_of_nonneg x (by decide)
    have g2 : ∀ x : Int, x.fdiv 2 = x / 2 := fun x => Int.fdiv_eq_ediv_of_nonneg x (by decide)
    have g4 : ∀ x : Int, x.fdiv 4 = x / 4 := fun x => Int.fdiv_eq_ediv_of_nonneg x (by decide)
    have g8 : ∀ x : Int, x.fdiv 8 = x / 8 := fun x => Int.fdiv_eq_ediv_of_nonneg x (by decide)
    rcases this with rfl | rfl | rfl | rfl
    · have q : ixD (.lst [.int 1, .int 2, .int 4, .int 8]) (.int 0) = some (.val (.int 1)) := rfl
      simp [FI__law_bit, B__law_bit, bitF, h4, q, d1, g1, f2]
    · have q : ixD (.lst [.int 1, .int 2, .int 4, .int 8]) (.int 1) = some (.val (.int 2)) := rfl
      simp [FI__law_bit, B__law_bit, bitF, h4, q, d2, g2, f2]
    · have q : ixD (.lst [.int 1, .int 2, .int 4, .int 8]) (.int 2) = some (.val (.int 4)) := rfl
      simp [FI__law_bit, B__law_bit, bitF, h4, q, d2, d4, g4, f2]
    · have q : ixD (.lst [.int 1, .int 2, .int 4, .int 8]) (.int 3) = some (.val (.int 8)) := rfl
      simp [FI__law_bit, B__law_bit, bitF, h4, q, d2, d8, g8, f2]
end W
end
section
set_option maxRecDepth 100000
/-! E3: k18, the rows that the law draws. -/
namespace W
open PySem L2 PyProof.Rows CI
def drawnF (c : Int) (a p sz : Nat) : List Int := (List.range sz).map fun (k : Nat) => ((digF c p sz).getD k 0 + bitF a k) % p
theorem ev_drawn (n : Nat) (c : Int) (a : Nat) {p : Nat} (hp : P4 p) (k : Nat) (hk : k < 1000) : callF tb (n + 2) "_law_drawn" [.val (.int c), .val (.int a), .val (.int p), .val (.int k)] = .ok (.own (.lst (zD (drawnF c a p k)))) := by
  rw [call_fn tb__law_drawn rfl]
  have hs : sizeLine = 16777216 := sizeLine_eq
  have h2 : rg1 (.int (k : Int)) = some (rgD 0 k) := rg1_nat (by omega)
  have hd := ev_digits n c hp k hk
  have hpp := hp.pos
  have hlen := dig_len c p k
  have lc := lcL_nm (i := 5) (elt := (cBin oMod (cBlt (uD gInt) (cCons (cA (cBin oAdd (cBin ixD (cVar 4) (cVar 5)) (cCall (callF tb (n + 1)) ("_law_bit" : Str) (cCons (cA (cVar 1)) (cCons (cA (cVar 5)) cNil))))) cNil)) (cVar 2)))
    (fun d => match d with | .int i => .int (((digF c p k).getD i.toNat 0 + bitF a i.toNat) % p) | _ => .non) (ds := rgD 0 k) (ρ := [.val (.int c), .val (.int a), .val (.int p), .val (.int k), .own (.lst (zD (digF c p k))), .emp]) rfl (by simp; omega) fun d hd => by
      obtain ⟨i, hi⟩ := List.getElem?_of_mem hd
      obtain ⟨hik, rfl⟩ := rg_at hi
      have hb := ev_bit n a i
      obtain ⟨x, hx⟩ : ∃ x, (digF c p k)[i]? = some x := ⟨_, List.getElem?_eq_getElem (by omega)⟩
      simp [hb, hx, hp.ne, Int.fmod_eq_emod_of_nonneg _ (Int.le_of_lt hpp)]
  simp [FI__law_drawn, B__law_drawn, hd]
  rw [ev_lc (ds := rgD 0 k) (ρ1 := [.val (.int c), .val (.int a), .val (.int p), .val (.int k), .own (.lst (zD (digF c p k))), .emp]) (h1 := by simp [h2]) (h2 := by rfl) (h3 := lc)]
  simp [drawnF, rgD]
def wideF (c : Int) (a p sz : Nat) : List Int := (List.range sz).map fun (k : Nat) => ((digF c p sz).getD k 0 + if k = a then 1 else 0) % p
theorem ev_wide (n : Nat) (c : Int) (a : Nat) {p : Nat} (hp : P4 p) (k : Nat) (hk : k < 1000) : callF tb (n + 2) "_law_wide" [.val (.int c), .val (.int a), .val (.int p), .val (.int k)] = .ok (.own (.lst (zD (wideF c a p k)))) := by
  rw [call_fn tb__law_wide rfl]
  have hs : sizeLine = 16777216 := sizeLine_eq
  have h2 : rg1 (.int (k : Int)) = some (rgD 0 k) := rg1_nat (by omega)
  have hd := ev_digits n c hp k hk
  have hpp := hp.pos
  have hlen := dig_len c p k
  have lc := lcL_nm (i := 5) (elt := (cBin oMod (cBlt (uD gInt) (cCons (cA (cBin oAdd (cBin ixD (cVar 4) (cVar 5)) (cBlt (uD gInt) (cCons (cA (cBin oEq (cVar 5) (cVar 1))) cNil)))) cNil)) (cVar 2)))
    (fun d => match d with | .int i => .int (((digF c p k).getD i.toNat 0 + if i.toNat = a then 1 else 0) % p) | _ => .non) (ds := rgD 0 k) (ρ := [.val (.int c), .val (.int a), .val (.int p), .val (.int k), .own (.lst (zD (digF c p k))), .emp]) rfl (by simp; omega) fun d hd => by
      obtain ⟨i, hi⟩ := List.getElem?_of_mem hd
      obtain ⟨hik, rfl⟩ := rg_at hi
      obtain ⟨x, hx⟩ : ∃ x, (digF c p k)[i]? = some x := ⟨_, List.getElem?_eq_getElem (by omega)⟩
      have ha : ((i : Int) = (a : Int)) = (i = a) := by apply propext; omega
      simp [hx, hp.ne, Int.fmod_eq_emod_of_nonneg _ (Int.le_of_lt hpp), ha]
  simp [FI__law_wide, B__law_wide, hd]
  rw [ev_lc (ds := rgD 0 k) (ρ1 := [.val (.int c), .val (.int a), .val (.int p), .val (.int k), .own (.lst (zD (digF c p k))), .emp]) (h1 := by simp [h2]) (h2 := by rfl) (h3 := lc)]
  simp [wideF, rgD]
end W
end
section
set_option maxRecDepth 100000
/-! E4: k18, the law's span. -/
namespace W
open PySem L2 PyProof.Rows CI
theorem ev_plus (n : Nat) {L : Nat} (hL : L < 1000) {w r : List Int} (t : Int) {p : Nat} (hp : P4 p) (hw : w.length = L) (hr : r.length = L) (ht : 0 ≤ t) (ht' : t < 100) : callF tb (n + 1) "_law_plus" [.val (.tup (zD w)), .val (.int t), .val (.lst (zD r)), .val (.int p)] = .ok (.val (.tup (zD (LA.ax p w t r)))) := by
  rw [call_fn tb__law_plus rfl]
  have hs : sizeLine = 16777216 := sizeLine_eq
  have h2 : rg1 (.int (r.length : Int)) = some (rgD 0 r.length) := rg1_nat (by omega)
  have hpp := hp.pos
  have lc := lcL_nm (i := 5) (elt := (cBin oMod (cBlt (uD gInt) (cCons (cA (cBin oAdd (cBin ixD (cVar 0) (cVar 5)) (cBin oMul (cVar 1) (cBin ixD (cVar 2) (cVar 5))))) cNil)) (cVar 3)))
    (fun d => match d with | .int i => .int ((w.getD i.toNat 0 + t * r.getD i.toNat 0) % p) | _ => .non) (ds := rgD 0 r.length) (ρ := [.val (.tup (zD w)), .val (.int t), .val (.lst (zD r)), .val (.int p), .val (.int r.length), .emp]) rfl (by simp; omega) fun d hd => by
      obtain ⟨i, hi⟩ := List.getElem?_of_mem hd
      obtain ⟨hik, rfl⟩ := rg_at hi
      obtain ⟨x, hx⟩ : ∃ x, w[i]? = some x := ⟨_, List.getElem?_eq_getElem (by omega)⟩
      obtain ⟨y, hy⟩ : ∃ y, r[i]? = some y := ⟨_, List.getElem?_eq_getElem (by omega)⟩
      have hm : mulOk t y = true := mulOk_small (by omega) (by omega)
      simp [hx, hy, hm, hp.ne, Int.fmod_eq_emod_of_nonneg _ (Int.le_of_lt hpp)]
  have hax : LA.ax p w t r = (List.range r.length).map fun i => (w.getD i 0 + t * r.getD i 0) % p := by
    apply LA.ext (L := L) (LA.ax_len hw hr) (by simp [hr])
    intro i hi
    rw [LA.ax_get hw hr hi, List.getD_eq_getElem?_getD (l := List.map _ _), List.getElem?_map, List.getElem?_range (by omega)]
    rfl
  simp [FI__law_plus, B__law_plus]
  rw [ev_lc (ds := rgD 0 r.length) (ρ1 := [.val (.tup (zD w)), .val (.int t), .val (.lst (zD r)), .val (.int p), .val (.int r.length), .emp]) (h1 := by simp [h2]) (h2 := by rfl) (h3 := lc)]
  simp [hax, rgD]
end W
end
section
set_option maxRecDepth 100000
/-! E5: k18, the law's span. -/
namespace W
open PySem L2 PyProof.Rows CI
/-- a vector as a tuple -/
abbrev tD (v : List Int) : D := .tup (zD v)
abbrev spW : Mn Fl → Mn Fl := id
theorem span_in (n : Nat) {L : Nat} (hL : L < 1000) {p : Nat} (hp : P4 p) (R : Sl) {F G : List (List Int)} {r : List Int} (hF : ∀ w ∈ F, w.length = L) (hr : r.length = L) (t : Int) (ht : 0 ≤ t) (ht' : t < 100) (hz : G.length + F.length < 100000) (s : Sl) :
    ∃ s', forL (tNm 6) (cApp 4 (cCall (callF tb (n + 1)) ("_law_plus" : Str) (cCons (cA (cVar 6)) (cCons (cA (cVar 5)) (cCons (cA (cVar 3)) (cCons (cA (cVar 1)) cNil)))))) (F.map tD) [R, .val (.int p), .bor (.lst (F.map tD)), .val (.lst (zD r)), .own (.lst (G.map tD)), .val (.int t), s] =
      .ok .nx [R, .val (.int p), .bor (.lst (F.map tD)), .val (.lst (zD r)), .own (.lst ((G ++ F.map fun w => LA.ax p w t r).map tD)), .val (.int t), s'] := by
  have hs : sizeLine = 16777216 := sizeLine_eq
  have main := forL_inv (t := tNm 6) (ds := F.map tD) (body := (cApp 4 (cCall (callF tb (n + 1)) ("_law_plus" : Str) (cCons (cA (cVar 6)) (cCons (cA (cVar 5)) (cCons (cA (cVar 3)) (cCons (cA (cVar 1)) cNil)))))))
    (fun i ρ => i ≤ F.length ∧ ∃ s, ρ = [R, .val (.int p), .bor (.lst (F.map tD)), .val (.lst (zD r)), .own (.lst ((G ++ (F.take i).map fun w => LA.ax p w t r).map tD)), .val (.int t), s]) (i := 0) (ρ := [R, .val (.int p), .bor (.lst (F.map tD)), .val (.lst (zD r)), .own (.lst (G.map tD)), .val (.int t), s]) ⟨Nat.zero_le _, s, by simp⟩ fun i d ρ _ hd ⟨hi, s, e⟩ => by
      subst e
      rw [Nat.sub_zero, List.getElem?_map] at hd
      cases hw : F[i]? with
      | none => rw [hw] at hd; cases hd
      | some w =>
        rw [hw] at hd
        cases hd
        have hil : i < F.length := by
          rcases Nat.lt_or_ge i F.length with q | q
          · exact q
          · rw [List.getElem?_eq_none q] at hw; cases hw
        have hwl := hF w (List.mem_of_getElem? hw)
        have hpl := ev_plus n hL t hp hwl hr ht ht'
        refine ⟨_, _, rfl, ?_, by omega, .val (tD w), rfl⟩
        have hl2 : ((G ++ (F.take i).map fun w => LA.ax p w t r).map tD).length < sizeLine := by simp; omega
        have hX : (G ++ (F.take (i + 1)).map fun w => LA.ax p w t r).map tD = (G ++ (F.take i).map fun w => LA.ax p w t r).map tD ++ [tD (LA.ax p w t r)] := by
          rw [List.take_add_one, hw]; simp
        rw [hX]
        generalize (G ++ (F.take i).map fun w => LA.ax p w t r).map tD = X at hl2 ⊢
        have hap := ev_appD (d := tD (LA.ax p w t r)) hl2
        simp [hpl, hap]
  obtain ⟨ρ', e, _, s', e2⟩ := main
  refine ⟨s', ?_⟩
  rw [e, e2]
  simp
end W
end
section
set_option maxRecDepth 100000
/-! E6: k18, the law's span, the numbers' loop. -/
namespace W
open PySem L2 PyProof.Rows CI
theorem rgD_cast (p : Nat) : rgD 0 p = (LA.rg p).map D.int := by
  unfold rgD LA.rg
  rw [List.map_map]
  apply List.map_congr_left
  intro k _
  simp
theorem span_mid (n : Nat) {L : Nat} (hL : L < 1000) {p : Nat} (hp : P4 p) (R : Sl) {F : List (List Int)} {r : List Int} (hF : ∀ w ∈ F, w.length = L) (hr : r.length = L) (hz : F.length * p ≤ 2500) (s1 s2 : Sl) :
    ∃ s1' s2', forL (tNm 5) (cLock 2 (cFor (ciVar 2) (tNm 6) (cApp 4 (cCall (callF tb (n + 1)) ("_law_plus" : Str) (cCons (cA (cVar 6)) (cCons (cA (cVar 5)) (cCons (cA (cVar 3)) (cCons (cA (cVar 1)) cNil)))))))) (rgD 0 p) [R, .val (.int p), .own (.lst (F.map tD)), .val (.lst (zD r)), .own (.lst []), s1, s2] =
      .ok .nx [R, .val (.int p), .own (.lst (F.map tD)), .val (.lst (zD r)), .own (.lst ((LA.grow1 p F r).map tD)), s1', s2'] := by
  have hs : sizeLine = 16777216 := sizeLine_eq
  have hp7 := hp.le
  have glen : ∀ i, i ≤ p → (((LA.rg p).take i).flatMap fun t => F.map fun w => LA.ax p w t r).length = F.length * i := fun i hi => by
    rw [List.length_flatMap]
    simp only [List.length_map]
    rw [List.map_const', List.sum_replicate_nat, List.length_take, LA.rg_len, Nat.min_eq_left hi, Nat.mul_comm]
  have main := forL_inv (t := tNm 5) (ds := rgD 0 p) (body := (cLock 2 (cFor (ciVar 2) (tNm 6) (cApp 4 (cCall (callF tb (n + 1)) ("_law_plus" : Str) (cCons (cA (cVar 6)) (cCons (cA (cVar 5)) (cCons (cA (cVar 3)) (cCons (cA (cVar 1)) cNil)))))))))
    (fun i ρ => i ≤ p ∧ ∃ s1 s2, ρ = [R, .val (.int p), .own (.lst (F.map tD)), .val (.lst (zD r)), .own (.lst ((((LA.rg p).take i).flatMap fun t => F.map fun w => LA.ax p w t r).map tD)), s1, s2]) (i := 0) (ρ := [R, .val (.int p), .own (.lst (F.map tD)), .val (.lst (zD r)), .own (.lst []), s1, s2]) ⟨Nat.zero_le _, s1, s2, by simp⟩ fun i d ρ _ hd ⟨hi, s1, s2, e⟩ => by
      subst e
      obtain ⟨h1, rfl⟩ := rg_at hd
      rw [Nat.sub_zero] at h1 hd ⊢
      have gl := glen i hi
      have hm : F.length * i ≤ F.length * p := Nat.mul_le_mul_left _ hi
      have hf1 : F.length ≤ F.length * p := Nat.le_mul_of_pos_right _ (by have := hp.pos; omega)
      obtain ⟨s2', e2⟩ := span_in n hL hp R (F := F) (G := ((LA.rg p).take i).flatMap fun t => F.map fun w => LA.ax p w t r) (r := r) hF hr (i : Int) (by omega) (by omega) (by rw [gl]; omega) s2
      have hn : ((LA.rg p).take (i + 1)).flatMap (fun t => F.map fun w => LA.ax p w t r) = ((LA.rg p).take i).flatMap (fun t => F.map fun w => LA.ax p w t r) ++ F.map fun w => LA.ax p w i r := by
        have hg : (LA.rg p)[i]? = some (i : Int) := by unfold LA.rg; rw [List.getElem?_map, List.getElem?_range h1]; rfl
        rw [List.take_add_one, hg, List.flatMap_append]
        simp
      refine ⟨_, _, rfl, ?_, by omega, .val (.int i), s2', rfl⟩
      rw [hn]
      show cLock 2 _ [R, .val (.int p), .own (.lst (F.map tD)), .val (.lst (zD r)), .own (.lst _), .val (.int i), s2] = _
      unfold cLock
      show (Out.mapE (unbor 2) (cFor (ciVar 2) (tNm 6) _ [R, .val (.int p), .bor (.lst (F.map tD)), .val (.lst (zD r)), .own (.lst _), .val (.int i), s2])) = _
      simp only [ev_for, ev_bnd]
      rw [ev_ciV3 (d := .lst (F.map tD)) rfl]
      simp only [ev_sd1, ev_ofO, ev_ret, bk1]
      rw [e2]
      rfl
  obtain ⟨ρ', e, _, s1', s2', e2⟩ := main
  refine ⟨s1', s2', ?_⟩
  rw [e, e2, Nat.zero_add, rgD_len]
  have : (LA.rg p).take p = LA.rg p := List.take_of_length_le (by rw [LA.rg_len]; omega)
  rw [this]
  rfl
end W
end
section
set_option maxRecDepth 100000
/-! E7: k18, the law's span, all rows. -/
namespace W
open PySem L2 PyProof.Rows CI
noncomputable def spB (F : CI.Callee) : Mn Fl :=
    (cIfS (cTst (cBin oNotIn (cBlt (uD gTuple) (cCons (cA (cVar 3)) cNil)) (cVar 2)))
    (cSeq (cIfS (cTst (cBin oGt (cBin oMul (cBlt (uD gLen) (cCons (cA (cVar 2)) cNil)) (cVar 1)) (cCst (.int 2500))))
    (cRet (cTup cNil))
    cPass)
    (cSeq (cSet 4 (cLst cNil))
    (cSeq (cFor (ciRg1 (cVar 1)) (tNm 5)
    (cLock 2 (cFor (ciVar 2) (tNm 6)
    (cApp 4 (cCall F ("_law_plus" : Str) (cCons (cA (cVar 6)) (cCons (cA (cVar 5)) (cCons (cA (cVar 3)) (cCons (cA (cVar 1)) cNil)))))))))
    (cSet 2 (cBlt (uD gList) (cCons (cA (cVar 4)) cNil))))))
    cPass)
abbrev lD (v : List Int) : D := .lst (zD v)
/-- one row -/
theorem span_row (n : Nat) {L : Nat} (hL : L < 1000) {p : Nat} (hp : P4 p) (R : Sl) {F : List (List Int)} {r : List Int} (hF : ∀ w ∈ F, w.length = L) (hr : r.length = L) (hz : F.length ≤ 2500) (s4 s5 s6 : Sl) :
    (r ∈ F → spB (callF tb (n + 1)) [R, .val (.int p), .own (.lst (F.map tD)), .val (lD r), s4, s5, s6] = .ok .nx [R, .val (.int p), .own (.lst (F.map tD)), .val (lD r), s4, s5, s6]) ∧
    (r ∉ F → 2500 < F.length * p → ∃ ρ', spB (callF tb (n + 1)) [R, .val (.int p), .own (.lst (F.map tD)), .val (lD r), s4, s5, s6] = .ok (.ret (.val (.tup []))) ρ') ∧
    (r ∉ F → ¬ 2500 < F.length * p → ∃ s4' s5' s6', spB (callF tb (n + 1)) [R, .val (.int p), .own (.lst (F.map tD)), .val (lD r), s4, s5, s6] = .ok .nx [R, .val (.int p), .own (.lst ((LA.grow1 p F r).map tD)), .val (lD r), s4', s5', s6']) := by
  have hin := v_notInT r F
  have hp7 := hp.le
  have hm : mulOk (F.length : Int) (p : Int) = true := mulOk_small (by omega) (by omega)
  have h2 : rg1 (.int (p : Int)) = some (rgD 0 p) := rg1_nat (by omega)
  refine ⟨fun h => ?_, fun h hz => ?_, fun h hz => ?_⟩
  · have hin : oNotIn (tD r) (.lst (F.map tD)) = some (.val (.bl false)) := by rw [hin]; simp [h]
    simp [spB, hin]
  · have hin : oNotIn (tD r) (.lst (F.map tD)) = some (.val (.bl true)) := by rw [hin]; simp [h]
    have hz' : (2500 : Int) < (F.length : Int) * (p : Int) := by exact_mod_cast hz
    simp [spB, hin, hm, hz']
  · have hin : oNotIn (tD r) (.lst (F.map tD)) = some (.val (.bl true)) := by rw [hin]; simp [h]
    have hz' : ¬ (2500 : Int) < (F.length : Int) * (p : Int) := by exact_mod_cast hz
    obtain ⟨s1', s2', e⟩ := span_mid n hL hp R hF hr (by omega) s5 s6
    refine ⟨.own (.lst ((LA.grow1 p F r).map tD)), s1', s2', ?_⟩
    simp [spB, hin, hm, hz', h2, e]
end W
end
section
set_option maxRecDepth 100000
/-! E8: k18, the law's span, all rows. -/
namespace W
open PySem L2 PyProof.Rows CI
theorem grow1_lenL {n L : Nat} {F : List (List Int)} {r : List Int} (hF : ∀ w ∈ F, w.length = L) (hr : r.length = L) : ∀ w ∈ LA.grow1 n F r, w.length = L := fun w hw => by
  obtain ⟨u, t, hu, _, _, rfl⟩ := (LA.grow_mem.1).mp hw
  exact LA.ax_len (hF u hu) hr
theorem forL_nx {t : Tg} {body : Mn Fl} {d : D} {ds : List D} {ρ ρ1 ρ2 : En} (h1 : t d ρ = .ok () ρ1) (h2 : body ρ1 = .ok .nx ρ2) : forL t body (d :: ds) ρ = forL t body ds ρ2 := by
  show bnd (t d) _ ρ = _
  rw [ev_bnd, h1, bk1, h2]
theorem forL_ret {t : Tg} {body : Mn Fl} {d : D} {ds : List D} {ρ ρ1 ρ2 : En} {r : Rv} (h1 : t d ρ = .ok () ρ1) (h2 : body ρ1 = .ok (.ret r) ρ2) : forL t body (d :: ds) ρ = .ok (.ret r) ρ2 := by
  show bnd (t d) _ ρ = _
  rw [ev_bnd, h1, bk1, h2]
theorem span_all (n : Nat) {L : Nat} (hL : L < 1000) {p : Nat} (hp : P4 p) (R : Sl) : ∀ (rows F : List (List Int)) (hrows : ∀ r ∈ rows, r.length = L) (hF : ∀ w ∈ F, w.length = L) (hz : F.length ≤ 2500) (s3 s4 s5 s6 : Sl),
    (LA.lawLim 2500 p F rows = none → ∃ ρ', forL (tNm 3) (spB (callF tb (n + 1))) (rows.map lD) [R, .val (.int p), .own (.lst (F.map tD)), s3, s4, s5, s6] = .ok (.ret (.val (.tup []))) ρ') ∧
    (∀ F', LA.lawLim 2500 p F rows = some F' → ∃ s3' s4' s5' s6', forL (tNm 3) (spB (callF tb (n + 1))) (rows.map lD) [R, .val (.int p), .own (.lst (F.map tD)), s3, s4, s5, s6] = .ok .nx [R, .val (.int p), .own (.lst (F'.map tD)), s3', s4', s5', s6'])
  | [], F, _, _, _, s3, s4, s5, s6 => ⟨fun h => (by cases h), fun F' h => (by cases h; exact ⟨s3, s4, s5, s6, rfl⟩)⟩
  | r :: rows, F, hrows, hF, hz, s3, s4, s5, s6 => by
    obtain ⟨a1, a2, a3⟩ := span_row n hL hp R hF (hrows r List.mem_cons_self) hz s4 s5 s6
    have hrows' : ∀ q ∈ rows, q.length = L := fun q hq => hrows q (List.mem_cons_of_mem _ hq)
    unfold LA.lawLim
    rw [List.map_cons]
    by_cases h : r ∈ F
    · rw [if_pos h, forL_nx rfl (a1 h)]
      exact span_all n hL hp R rows F hrows' hF hz _ s4 s5 s6
    · rw [if_neg h]
      by_cases hq : F.length * p > 2500
      · rw [if_pos hq]
        obtain ⟨ρ', e⟩ := a2 h hq
        exact ⟨fun _ => ⟨ρ', forL_ret rfl e⟩, fun F' e => (by cases e)⟩
      · rw [if_neg hq]
        obtain ⟨s4', s5', s6', e⟩ := a3 h hq
        rw [forL_nx rfl e]
        exact span_all n hL hp R rows _ hrows' (grow1_lenL hF (hrows r List.mem_cons_self)) (by rw [LA.grow1_len]; omega) _ s4' s5' s6'
end W
end
section
set_option maxRecDepth 100000
/-! E9: k18, _law_span. -/
namespace W
open PySem L2 PyProof.Rows CI
theorem ints_z : ∀ v : List Int, intsD (zD v) = some v
  | [] => rfl
  | a :: v => by
    show (intsD (zD v)).map (a :: ·) = _
    rw [ints_z v]; rfl
theorem tupsI_t : ∀ F : List (List Int), tupsI (F.map tD) = some F
  | [] => rfl
  | a :: F => by
    show (match tupI1 (tD a), tupsI (F.map tD) with
      | some ns, some nss => some (ns :: nss)
      | _, _ => none) = _
    rw [tupsI_t F, show tupI1 (tD a) = some a from ints_z a]
theorem v_sorted {F : List (List Int)} (h1 : F ≠ []) (h2 : ∀ v ∈ F, v ≠ []) : gSorted [.lst (F.map tD)] = some (.own (.lst ((sortT F).map tD))) := by
  have e1 : gSortedI (.lst (F.map tD)) = none := by
    cases F with
    | nil => exact absurd rfl h1
    | cons a F => rfl
  have e2 : gSortedT (.lst (F.map tD)) = some (.own (.lst ((sortT F).map tD))) := by
    show ((tupsI (F.map tD)).bind fun nss => if nss.all (fun ns => !ns.isEmpty) then some (Rv.own (.lst ((sortT nss).map tupOf))) else none) = _
    rw [tupsI_t, Option.bind_some, if_pos]
    · rfl
    · rw [List.all_eq_true]
      intro v hv
      simpa using h2 v hv
  show orL (uD gSortedI) (uD gSortedT) [.lst (F.map tD)] = _
  unfold orL
  rw [ev_uD, ev_uD, e1, e2]
theorem zs_tD (L : Nat) : (List.replicate L [D.int 0]).flatten = zD (LA.zs L) := by
  induction L with
  | zero => rfl
  | succ n ih => rw [List.replicate_succ, List.flatten_cons, ih]; rfl
theorem lim_good {L p : Nat} (hp : (0 : Int) < p) : ∀ (rows F F' : List (List Int)), (∀ r ∈ rows, r.length = L) → (∀ w ∈ F, w.length = L) → F ≠ [] → LA.lawLim 2500 p F rows = some F' → F' ≠ [] ∧ ∀ w ∈ F', w.length = L
  | [], F, F', _, hF, hn, h => by cases h; exact ⟨hn, hF⟩
  | r :: rows, F, F', hr, hF, hn, h => by
    have hr' : ∀ q ∈ rows, q.length = L := fun q hq => hr q (List.mem_cons_of_mem _ hq)
    unfold LA.lawLim at h
    by_cases e : r ∈ F
    · rw [if_pos e] at h
      exact lim_good hp rows F F' hr' hF hn h
    · rw [if_neg e] at h
      split at h
      · cases h
      · refine lim_good hp rows _ F' hr' (grow1_lenL hF (hr r List.mem_cons_self)) (fun z => ?_) h
        have := congrArg List.length z
        rw [LA.grow1_len] at this
        have h2 : 0 < F.length := List.length_pos_iff.mpr hn
        have h3 : 0 < F.length * p := Nat.mul_pos h2 (by omega)
        simp at this
        omega
theorem ev_span (n : Nat) {L : Nat} (h1L : 1 ≤ L) (hL : L < 1000) {p : Nat} (hp : P4 p) {rows : List (List Int)} (hne : rows ≠ []) (hrows : ∀ r ∈ rows, r.length = L) (q : Rv) (hq : q = .val (.lst (rows.map lD)) ∨ q = .bor (.lst (rows.map lD))) :
    callF tb (n + 2) "_law_span" [q, .val (.int p)] = match LA.lawLim 2500 p [LA.zs L] rows with
      | none => .ok (.val (.tup []))
      | some F => .ok (.val (.tup ((sortT F).map tD))) := by
  have hs : sizeLine = 16777216 := sizeLine_eq
  obtain ⟨r0, rs, rfl⟩ : ∃ r0 rs, rows = r0 :: rs := by
    cases rows with
    | nil => exact absurd rfl hne
    | cons a b => exact ⟨a, b, rfl⟩
  have hr0 := hrows r0 List.mem_cons_self
  have hmul : oMul (.tup [.int 0]) (.int (r0.length : Int)) = some (.val (tD (LA.zs L))) := by
    rw [hr0]
    show (if decide (1 ≤ (L : Int)) && decide ((L : Int) ≤ 1000) && !([D.int 0] : List D).isEmpty && decide (([D.int 0] : List D).length ≤ 1000) then some (Rv.val (.tup (List.replicate (L : Int).toNat [D.int 0]).flatten)) else none) = _
    rw [if_pos (by simp; omega), Int.toNat_natCast, zs_tD]
  have s1 : sz 1 = true := sz_ok (by omega)
  have key : ∀ R : Sl, (R = .val (.lst ((r0 :: rs).map lD)) ∨ R = .bor (.lst ((r0 :: rs).map lD))) → resOf (B__law_span (callF tb (n + 1)) [R, .val (.int p), .emp, .emp, .emp, .emp, .emp]) = match LA.lawLim 2500 p [LA.zs L] (r0 :: rs) with
      | none => .ok (.val (.tup []))
      | some F => .ok (.val (.tup ((sortT F).map tD))) := fun R hR => by
    obtain ⟨b1, b2⟩ := span_all n hL hp R (r0 :: rs) [LA.zs L] hrows (fun w hw => by
      obtain rfl : w = LA.zs L := by simpa using hw
      simp [LA.zs]) (by simp) .emp .emp .emp .emp
    have hlock : ∀ (m : Mn Fl) (ρ : En), cLock 0 m (R :: ρ) = m (R :: ρ) := fun m ρ => by rcases hR with rfl | rfl <;> rfl
    have hvar : ∀ ρ : En, ciVar 0 (R :: ρ) = .ok ((r0 :: rs).map lD) (R :: ρ) := fun ρ => by rcases hR with rfl | rfl <;> rfl
    have hv0 : ∀ ρ : En, ∃ q : Rv, cVar 0 (R :: ρ) = .ok q (R :: ρ) ∧ q.d = .lst ((r0 :: rs).map lD) := fun ρ => by
      rcases hR with rfl | rfl
      · exact ⟨_, rfl, rfl⟩
      · exact ⟨_, rfl, rfl⟩
    obtain ⟨q0, hq0, hqd⟩ := hv0 [.val (.int p), .emp, .emp, .emp, .emp, .emp]
    have hix : ixD (.lst (lD r0 :: rs.map lD)) (.int 0) = some (.val (lD r0)) := by
      have := v_ix1 (lD r0 :: rs.map lD) 0
      simpa using this
    have hqd : q0.d = .lst (lD r0 :: rs.map lD) := hqd
    have hgood : ∀ F, LA.lawLim 2500 p [LA.zs L] (r0 :: rs) = some F → F ≠ [] ∧ ∀ v ∈ F, v ≠ [] := fun F hl => by
      obtain ⟨g1, g2⟩ := lim_good (L := L) (p := p) hp.pos (r0 :: rs) [LA.zs L] F hrows (fun w hw => by
        obtain rfl : w = LA.zs L := by simpa using hw
        simp [LA.zs]) (by simp) hl
      exact ⟨g1, fun v hv z => by have := g2 v hv; rw [z] at this; simp at this; omega⟩
    unfold B__law_span
    change resOf (cSeq _ (cSeq (cLock 0 (cFor (ciVar 0) (tNm 3) (spB (callF tb (n + 1))))) _) _) = _
    have first : (cSet 2 (cLst (cCons (cV (cBin oMul (cTup (cCons (cV (cCst (.int 0))) cNil)) (cBlt (uD gLen) (cCons (cA (cBin ixD (cVar 0) (cCst (.int 0)))) cNil)))) cNil))) [R, .val (.int p), .emp, .emp, .emp, .emp, .emp] = .ok .nx [R, .val (.int p), .own (.lst [tD (LA.zs L)]), .emp, .emp, .emp, .emp] := by
      simp [s1, hq0, hqd, hix, hmul]
    rw [ev_seq, first, sk1, ev_seq, hlock, ev_for, ev_bnd, hvar, bk1]
    cases hl : LA.lawLim 2500 p [LA.zs L] (r0 :: rs) with
    | none =>
      obtain ⟨ρ', e⟩ := b1 hl
      have e : forL (tNm 3) (spB (callF tb (n + 1))) ((r0 :: rs).map lD) [R, .val (.int p), .own (.lst [tD (LA.zs L)]), .emp, .emp, .emp, .emp] = _ := e
      rw [e]
      rfl
    | some F =>
      obtain ⟨s3, s4, s5, s6, e⟩ := b2 F hl
      have e : forL (tNm 3) (spB (callF tb (n + 1))) ((r0 :: rs).map lD) [R, .val (.int p), .own (.lst [tD (LA.zs L)]), .emp, .emp, .emp, .emp] = _ := e
      rw [e, sk1]
      have hsrt : gSorted [.lst (F.map tD)] = some (.own (.lst ((sortT F).map tD))) := v_sorted (hgood F hl).1 (hgood F hl).2
      simp [hsrt]
  rcases hq with rfl | rfl
  · rw [call_fn tb__law_span rfl]
    exact key _ (.inl rfl)
  · rw [call_fn tb__law_span rfl]
    exact key _ (.inr rfl)
end W
end
section
set_option maxRecDepth 100000
/-! E10: k18, _pivot. -/
namespace W
open PySem L2 PyProof.Rows CI
def invT (p : Nat) : List Int := if p = 2 then [0, 1] else if p = 3 then [0, 1, 2] else if p = 5 then [0, 1, 3, 2, 4] else [0, 1, 4, 5, 2, 3, 6]
def iv (p : Nat) (x : Int) : Int := (invT p).getD x.toNat 0
theorem iv_ok {p : Nat} (hp : P4 p) : ∀ x, 0 < x → x < (p : Int) → LA.C p (x * iv p x) 1 := by
  intro x h0 h1
  have key : ∀ (p : Nat) (l : List Nat), P4 p → (∀ k : Nat, 0 < k → k < p → ((k : Int) * iv p k) % p = 1) → LA.C p (x * iv p x) 1 ∨ ¬ x < (p : Int) := fun p l hp h => by
    by_cases hx : x < (p : Int)
    · refine .inl (LA.C.of_mod ?_)
      have := h x.toNat (by omega) (by omega)
      rw [show ((x.toNat : Nat) : Int) = x by omega] at this
      rw [this]
      have := hp.inv.1
      exact (Int.emod_eq_of_lt (by omega) (by omega)).symm
    · exact .inr hx
  have all : ∀ k : Nat, 0 < k → k < p → ((k : Int) * iv p k) % p = 1 := by
    have h : ∀ k, k < p → 0 < k → ((k : Int) * iv p k) % p = 1 := by rcases hp with rfl | rfl | rfl | rfl <;> decide
    exact fun k a b => h k b a
  exact (key p [] hp all).resolve_right (by omega)
theorem wget_ok {p : Nat} (hp : P4 p) : wgetD v_INVERSES (.int (p : Int)) = some (.val (.tup (zD (invT p)))) := by
  rcases hp with rfl | rfl | rfl | rfl <;> rfl
theorem inv_at {p : Nat} (hp : P4 p) {x : Int} (h0 : 0 ≤ x) (h1 : x < p) : ixD (.tup (zD (invT p))) (.int x) = some (.val (.int (iv p x))) := by
  obtain ⟨k, rfl⟩ : ∃ k : Nat, x = k := ⟨x.toNat, by omega⟩
  rw [v_ix2]
  have hl : k < (invT p).length := by rcases hp with rfl | rfl | rfl | rfl <;> (simp [invT]; omega)
  unfold iv
  rw [List.getElem?_map, List.getD_eq_getElem?_getD, Int.toNat_natCast, List.getElem?_eq_getElem hl]
  rfl
theorem iv_bd {p : Nat} (hp : P4 p) (x : Int) : -100 < iv p x ∧ iv p x < 100 := by
  have h : ∀ y ∈ invT p, 0 ≤ y ∧ y < 100 := by rcases hp with rfl | rfl | rfl | rfl <;> decide
  unfold iv
  rw [List.getD_eq_getElem?_getD]
  cases e : (invT p)[x.toNat]? with
  | none => simp
  | some y => have := h y (List.mem_of_getElem? e); simp; omega
/-- a comprehension over pairs -/
theorem zip_z : ∀ v w : List Int, zipD (zD v) (zD w) = (List.zip v w).map fun q => D.tup [.int q.1, .int q.2]
  | [], _ => by simp [zipD]
  | _ :: _, [] => by simp [zipD]
  | a :: v, b :: w => by
    have := zip_z v w
    simp [zipD, this]
end W
end
section
set_option maxRecDepth 100000
/-! E11: k18, _pivot. -/
namespace W
open PySem L2 PyProof.Rows CI
theorem enum_at : ∀ (xs : List D) (k i : Nat) (d : D), (enumD k xs)[i]? = some d → ∃ x, xs[i]? = some x ∧ d = .tup [.int ((k + i : Nat) : Int), x] := fun xs k i d h => enumD_get h
theorem zip_zw {β : Type} (h : Int → Int → β) : ∀ v w : List Int, (List.zip v w).map (fun q => h q.1 q.2) = List.zipWith h v w
  | [], _ => by simp
  | _ :: _, [] => by simp
  | a :: v, b :: w => by simp [zip_zw h v w]
/-- the row's comprehension -/
noncomputable def pvC : Mn Rv := cLc (ciZip (qV 8) (qV 5)) (.tup [(.nm 10), (.nm 11)]) cYes (cBin oMod (cBin oSub (cVar 10) (cBin oMul (cVar 9) (cVar 11))) (cVar 3)) [10, 11]
theorem pv_comp {p : Nat} (hp : P4 p) {f : Int} (hf : 0 ≤ f) (hf' : f < 100) (row mn : List Int) (hl : row.length < 1000) (Rw A B I M G X : Sl) (hM : M = .val (lD mn) ∨ M = .own (lD mn) ∨ M = .bor (lD mn)) :
    cLock 5 (cLock 8 pvC) [Rw, A, B, .val (.int p), I, M, G, X, .val (lD row), .val (.int f), .emp, .emp] = .ok (.own (lD (List.zipWith (fun e own => (e - f * own) % p) row mn))) [Rw, A, B, .val (.int p), I, M, G, X, .val (lD row), .val (.int f), .emp, .emp] := by
  have hs : sizeLine = 16777216 := sizeLine_eq
  have hpp := hp.pos
  have core : ∀ M' : Sl, (M' = .val (lD mn) ∨ M' = .bor (lD mn)) → pvC [Rw, A, B, .val (.int p), I, M', G, X, .val (lD row), .val (.int f), .emp, .emp] = .ok (.own (lD (List.zipWith (fun e own => (e - f * own) % p) row mn))) [Rw, A, B, .val (.int p), I, M', G, X, .val (lD row), .val (.int f), .emp, .emp] := fun M' hM' => by
    have lc := lcL_map (t := .tup [.nm 10, .nm 11]) (vs := [10, 11]) (elt := (cBin oMod (cBin oSub (cVar 10) (cBin oMul (cVar 9) (cVar 11))) (cVar 3)))
      (fun d => match d with | .tup [.int e, .int o] => .int ((e - f * o) % p) | _ => .non) (ds := (List.zip row mn).map fun q => D.tup [.int q.1, .int q.2]) (acc := []) (ρ := [Rw, A, B, .val (.int p), I, M', G, X, .val (lD row), .val (.int f), .emp, .emp]) (by simp; omega) fun d hd => by
        obtain ⟨q, hq, rfl⟩ := List.mem_map.mp hd
        refine ⟨[Rw, A, B, .val (.int p), I, M', G, X, .val (lD row), .val (.int f), .val (.int q.1), .val (.int q.2)], [Rw, A, B, .val (.int p), I, M', G, X, .val (lD row), .val (.int f), .val (.int q.1), .val (.int q.2)], rfl, ?_, rfl⟩
        have hm : mulOk f q.2 = true := mulOk_small (by omega) (by omega)
        simp [hm, hp.ne, Int.fmod_eq_emod_of_nonneg _ (Int.le_of_lt hpp)]
    have hz : ciZip (qV 8) (qV 5) [Rw, A, B, .val (.int p), I, M', G, X, .val (lD row), .val (.int f), .emp, .emp] = .ok ((List.zip row mn).map fun q => D.tup [.int q.1, .int q.2]) [Rw, A, B, .val (.int p), I, M', G, X, .val (lD row), .val (.int f), .emp, .emp] := by
      rw [← zip_z]
      rcases hM' with rfl | rfl <;> rfl
    unfold pvC
    rw [ev_lc hz (by rcases hM' with rfl | rfl <;> rfl) lc]
    have e : (([] : List D) ++ ((List.zip row mn).map fun q => D.tup [.int q.1, .int q.2]).map (fun d => match d with | .tup [.int e, .int o] => .int ((e - f * o) % p) | _ => .non)) = zD (List.zipWith (fun e own => (e - f * own) % p) row mn) := by
      rw [List.nil_append, List.map_map, ← zip_zw]
      show _ = List.map D.int (List.map _ _)
      rw [List.map_map]
      rfl
    simp only [e]
    rcases hM' with rfl | rfl <;> rfl
  rcases hM with rfl | rfl | rfl
  · exact core _ (.inl rfl)
  · show Out.mapE (unbor 5) (cLock 8 pvC [Rw, A, B, .val (.int p), I, .bor (lD mn), G, X, .val (lD row), .val (.int f), .emp, .emp]) = _
    have := core _ (.inr rfl)
    show Out.mapE (unbor 5) (pvC [Rw, A, B, .val (.int p), I, .bor (lD mn), G, X, .val (lD row), .val (.int f), .emp, .emp]) = _
    rw [this]
    rfl
  · exact core _ (.inr rfl)
end W
end
section
set_option maxRecDepth 100000
/-! E12: k18, _pivot. -/
namespace W
open PySem L2 PyProof.Rows CI
noncomputable def pvB : Mn Fl := (cIfS (cTst (cBin oEq (cVar 7) (cVar 1)))
    (cApp 6 (cFrz 5))
    (cSeq (cSet 9 (cBin ixD (cVar 8) (cVar 2)))
    (cApp 6 (cLock 5 (cLock 8 pvC)))))
theorem pvt_len {p inv : Int} {R : List (List Int)} {m c : Nat} : (LA.pvt p inv R m c).length = R.length := by simp [LA.pvt]
theorem ok_bd {p : Int} {L : Nat} {r : List Int} (h : LA.Ok p L r) : ∀ x ∈ r, 0 ≤ x ∧ x < p := fun x hx => by
  obtain ⟨i, hi, e⟩ := List.mem_iff_getElem.mp hx
  have := h.bd i (by rw [← h.len]; exact hi)
  rw [List.getD_eq_getElem?_getD, List.getElem?_eq_getElem hi, Option.getD_some, e] at this
  exact this
theorem pv_loop {p : Nat} (hp : P4 p) {L : Nat} {R : List (List Int)} (hR : LA.Oks p L R) (hL : L < 1000) (hl : R.length < 1000) {m c : Nat} (hc : c < L) (inv : Int) (S0 I : Sl) :
    ∃ s5 s7 s8 s9, forL (tTup [(tNm 7), (tNm 8)]) pvB (enumD 0 (R.map lD)) [S0, .val (.int m), .val (.int c), .val (.int p), I, .own (lD (LA.mainR p inv (LA.rw_ R m))), .own (.lst []), .emp, .emp, .emp, .emp, .emp] =
      .ok .nx [S0, .val (.int m), .val (.int c), .val (.int p), I, s5, .own (.lst ((LA.pvt p inv R m c).map lD)), s7, s8, s9, .emp, .emp] := by
  have hs : sizeLine = 16777216 := sizeLine_eq
  have hpp := hp.pos
  have hp7 := hp.le
  let mn := LA.mainR p inv (LA.rw_ R m)
  have main := forL_inv (t := tTup [(tNm 7), (tNm 8)]) (body := pvB) (ds := enumD 0 (R.map lD))
    (fun i ρ => i ≤ R.length ∧ ∃ s5 s7 s8 s9, (s5 = .val (lD mn) ∨ s5 = .own (lD mn) ∨ s5 = .bor (lD mn)) ∧ (i ≤ m → s5 = .own (lD mn)) ∧ ρ = [S0, .val (.int m), .val (.int c), .val (.int p), I, s5, .own (.lst (((LA.pvt p inv R m c).take i).map lD)), s7, s8, s9, .emp, .emp])
    (i := 0) (ρ := [S0, .val (.int m), .val (.int c), .val (.int p), I, .own (lD mn), .own (.lst []), .emp, .emp, .emp, .emp, .emp]) ⟨Nat.zero_le _, _, _, _, _, .inr (.inl rfl), fun _ => rfl, rfl⟩ fun i d ρ _ hd ⟨hi, s5, s7, s8, s9, h5, h5m, e⟩ => by
      subst e
      rw [Nat.sub_zero] at hd
      obtain ⟨x, hx, rfl⟩ := enum_at _ _ _ _ hd
      rw [List.getElem?_map] at hx
      cases hr : R[i]? with
      | none => rw [hr] at hx; cases hx
      | some r =>
        rw [hr] at hx
        obtain rfl : lD r = x := by simpa using hx
        have hil := LA.lt_at hr
        have hrok := hR r (List.mem_of_getElem? hr)
        obtain ⟨f, hf⟩ : ∃ f, r[c]? = some f := ⟨_, List.getElem?_eq_getElem (by rw [hrok.len]; exact hc)⟩
        have hfb := ok_bd hrok f (List.mem_of_getElem? hf)
        have hrl : r.length < 1000 := by rw [hrok.len]; exact hL
        have htk : ((LA.pvt p inv R m c).take i).length = i := by rw [List.length_take, pvt_len]; omega
        have hl2 : (((LA.pvt p inv R m c).take i).map lD).length < sizeLine := by rw [List.length_map, htk]; omega
        have hat := LA.pvt_at (p := p) (R := R) (m := m) (c := c) (inv := inv) i
        rw [hr] at hat
        simp only [Option.map_some] at hat
        have hn : ((LA.pvt p inv R m c).take (i + 1)).map lD = ((LA.pvt p inv R m c).take i).map lD ++ [lD (if i = m then mn else List.zipWith (fun e own => (e - f * own) % p) r mn)] := by
          rw [List.take_add_one, hat]
          have : r.getD c 0 = f := by rw [List.getD_eq_getElem?_getD, hf]; rfl
          rw [this]
          simp [mn]
        rw [hn]
        generalize (((LA.pvt p inv R m c).take i).map lD) = X at hl2 ⊢
        have hap := fun d => ev_appD (d := d) hl2
        rw [show 0 + i = i by omega]
        by_cases him : i = m
        · subst him
          rw [h5m (Nat.le_refl _), if_pos rfl]
          refine ⟨[S0, .val (.int i), .val (.int c), .val (.int p), I, .own (lD mn), .own (.lst X), .val (.int i), .val (lD r), s9, .emp, .emp], [S0, .val (.int i), .val (.int c), .val (.int p), I, .val (lD mn), .own (.lst (X ++ [lD mn])), .val (.int i), .val (lD r), s9, .emp, .emp], by simp, ?_, by omega, _, _, _, _, .inl rfl, fun h => by omega, rfl⟩
          simp [pvB, hap]
        · rw [if_neg him]
          have hpc := pv_comp hp hfb.1 (by omega) r mn hrl S0 (.val (.int m)) (.val (.int c)) I s5 (.own (.lst X)) (.val (.int i)) h5
          have him' : ¬ (i : Int) = (m : Int) := by omega
          refine ⟨[S0, .val (.int m), .val (.int c), .val (.int p), I, s5, .own (.lst X), .val (.int i), .val (lD r), s9, .emp, .emp], [S0, .val (.int m), .val (.int c), .val (.int p), I, s5, .own (.lst (X ++ [lD (List.zipWith (fun e own => (e - f * own) % p) r mn)])), .val (.int i), .val (lD r), .val (.int f), .emp, .emp], by simp, ?_, by omega, _, _, _, _, h5, fun h => h5m (by omega), rfl⟩
          simp [pvB, hap, him', hf, hpc]
  obtain ⟨ρ', e, _, s5, s7, s8, s9, _, _, e2⟩ := main
  refine ⟨s5, s7, s8, s9, ?_⟩
  rw [e, e2]
  have hel : (enumD 0 (R.map lD)).length = R.length := by rw [enumD_len]; simp
  rw [hel, List.take_of_length_le (by rw [pvt_len]; omega)]
theorem ev_pivot (n : Nat) {p : Nat} (hp : P4 p) {L : Nat} {R : List (List Int)} (hR : LA.Oks p L R) (hL : L < 1000) (hl : R.length < 1000) {m c : Nat} (hm : m < R.length) (hc : c < L) :
    callF tb (n + 1) "_pivot" [.bor (.lst (R.map lD)), .val (.int m), .val (.int c), .val (.int p)] = .ok (.own (.lst ((LA.pvt p (iv p ((LA.rw_ R m).getD c 0)) R m c).map lD))) := by
  have hs : sizeLine = 16777216 := sizeLine_eq
  have hpp := hp.pos
  have hp7 := hp.le
  have hat := LA.at_rw hm
  have hok := hR _ (List.mem_of_getElem? hat)
  generalize hr : LA.rw_ R m = r at hat hok
  obtain ⟨f, hf⟩ : ∃ f, r[c]? = some f := ⟨_, List.getElem?_eq_getElem (by rw [hok.len]; exact hc)⟩
  have hfb := ok_bd hok f (List.mem_of_getElem? hf)
  have hfd : r.getD c 0 = f := by rw [List.getD_eq_getElem?_getD, hf]; rfl
  have hwg := wget_ok hp
  have hia := inv_at hp hfb.1 hfb.2
  have hib := iv_bd hp f
  obtain ⟨s5, s7, s8, s9, e⟩ := pv_loop hp hR hL hl (m := m) hc (iv p f) (.bor (.lst (R.map lD))) (.val (.int (iv p f)))
  have lc := ev_lcN (i := 10) (it := ciSeq (cBin ixD (cVar 0) (cVar 1))) (elt := (cBin oMod (cBin oMul (cVar 10) (cVar 4)) (cVar 3))) (xs := r) (s := .emp)
    (ρ := [.bor (.lst (R.map lD)), .val (.int m), .val (.int c), .val (.int p), .val (.int (iv p f)), .emp, .emp, .emp, .emp, .emp, .emp, .emp]) (ρ1 := [.bor (.lst (R.map lD)), .val (.int m), .val (.int c), .val (.int p), .val (.int (iv p f)), .emp, .emp, .emp, .emp, .emp, .emp, .emp])
    D.int (fun e => .int (e * iv p f % p)) (by simp [hat]) rfl rfl (by rw [hok.len]; omega) fun x hx => by
      have hx := ok_bd hok x hx
      have hm : mulOk x (iv p f) = true := mulOk_small (by omega) (by omega)
      simp [hm, hp.ne, Int.fmod_eq_emod_of_nonneg _ (Int.le_of_lt hpp)]
  rw [call_fn tb__pivot rfl, hfd]
  rw [hr] at e
  have e1 : (r.map fun e => D.int (e * iv p f % p)) = zD (LA.mainR p (iv p f) r) := by simp [LA.mainR, zD]
  rw [e1] at lc
  unfold pvB pvC at e
  simp [FI__pivot, B__pivot, hat, hf, hwg, hia, lc, e]
end W
end
section
set_option maxRecDepth 100000
/-! E13: k18, _lead_rows. -/
namespace W
open PySem L2 PyProof.Rows CI
/-- a Table -/
def tO (p L : Nat) (rows : List (List Int)) (txt : Str) : D := .obj "Table" [("prime", .int p), ("size", .int L), ("rows", .tup (rows.map tD)), ("text", .str txt)]
theorem f_prime (p L : Nat) (rows : List (List Int)) (txt : Str) : fldD ["Table"] "prime" (tO p L rows txt) = some (.int p) := by kernel_rfl
theorem f_size (p L : Nat) (rows : List (List Int)) (txt : Str) : fldD ["Table"] "size" (tO p L rows txt) = some (.int L) := by kernel_rfl
theorem f_rows (p L : Nat) (rows : List (List Int)) (txt : Str) : fldD ["Table"] "rows" (tO p L rows txt) = some (.tup (rows.map tD)) := by kernel_rfl
noncomputable def ldB (F : CI.Callee) : Mn Fl := (cSeq (cSet 4 (cBlt (uD gLen) (cCons (cA (cVar 2)) cNil)))
    (cSeq (cSet 5 (cLc (ciRg2 (cVar 4) (cBlt (uD gLen) (cCons (cA (cVar 1)) cNil))) (.nm 7) (cTst (cBin oNe (cBin ixD (cBin ixD (cVar 1) (cVar 7)) (cVar 3)) (cCst (.int 0)))) (cFrz 7) [7]))
    (cIfS (cTst (cBin oNe (cVar 5) (cLst cNil)))
    (cSeq (cSetT (tTup [(tSub 1 (cVar 4)), (tSub 1 (cBin ixD (cVar 5) (cCst (.int 0))))]) (cV (cTup (cCons (cV (cBin ixD (cVar 1) (cBin ixD (cVar 5) (cCst (.int 0))))) (cCons (cV (cBin ixD (cVar 1) (cVar 4))) cNil)))))
    (cSeq (cSet 1 (cCall F ("_pivot" : Str) (cCons (cA (cVar 1)) (cCons (cA (cVar 4)) (cCons (cA (cVar 3)) (cCons (cA (cFld (["Table"] : List Str) ("prime" : Str) (cVar 0))) cNil))))))
    (cApp 2 (cFrz 3))))
    cPass)))
theorem rg2_nat {a k : Nat} (h : k < 2 ^ 62) (ha : a < 2 ^ 62) : rg2 (.int (a : Int)) (.int (k : Int)) = some ((List.range' a (k - a)).map fun (i : Nat) => D.int i) := by
  have h1 : inRg (k : Int) = true := by unfold inRg; simp; omega
  have h2 : inRg (a : Int) = true := by unfold inRg; simp; omega
  show (if (inRg (a : Int) && inRg (k : Int)) = true then some (rgD (a : Int) ((k : Int) - (a : Int)).toNat) else none) = _
  rw [h1, h2]
  simp only [Bool.and_self, if_true]
  have : ((k : Int) - (a : Int)).toNat = k - a := by omega
  rw [this]
  unfold rgD
  rw [List.range'_eq_map_range, List.map_map]
  refine congrArg some (List.map_congr_left fun i _ => ?_)
  simp
theorem zD_nat (v : List Nat) : (v.map fun (i : Nat) => D.int i) = zD (v.map fun (i : Nat) => (i : Int)) := by simp [zD]
theorem ld_turn (n : Nat) {p : Nat} (hp : P4 p) {L : Nat} {R : List (List Int)} {cs : List Nat} (hR : LA.Oks p L R) (hL : L < 1000) (hl : R.length < 1000) {rows : List (List Int)} {txt : Str} {c : Nat} (hc : c < L) (hcs : cs.length ≤ R.length) (s4 s5 : Sl) (hs4 : okOwn [s4, s5] [] = true) :
    ∃ s4' s5', ldB (callF tb (n + 1)) [.val (tO p L rows txt), .own (.lst (R.map lD)), .own (.lst (cs.map fun (i : Nat) => D.int i)), .val (.int c), s4, s5, .emp, .emp] =
      .ok .nx [.val (tO p L rows txt), .own (.lst ((LA.gstep p (iv p) (R, cs) c).1.map lD)), .own (.lst ((LA.gstep p (iv p) (R, cs) c).2.map fun (i : Nat) => D.int i)), .val (.int c), s4', s5', .emp, .emp] := by
  have hs : sizeLine = 16777216 := sizeLine_eq
  have hrg := rg2_nat (a := cs.length) (k := R.length) (by omega) (by omega)
  let us := LA.usable R cs.length c
  have hlc := ev_lcF (i := 7) (it := (ciRg2 (cVar 4) (cBlt (uD gLen) (cCons (cA (cVar 1)) cNil)))) (cond := (cTst (cBin oNe (cBin ixD (cBin ixD (cVar 1) (cVar 7)) (cVar 3)) (cCst (.int 0))))) (elt := cFrz 7) (xs := List.range' cs.length (R.length - cs.length)) (s := .emp)
    (ρ := [.val (tO p L rows txt), .own (.lst (R.map lD)), .own (.lst (cs.map fun (i : Nat) => D.int i)), .val (.int c), .val (.int cs.length), s5, .emp, .emp]) (ρ1 := [.val (tO p L rows txt), .own (.lst (R.map lD)), .own (.lst (cs.map fun (i : Nat) => D.int i)), .val (.int c), .val (.int cs.length), s5, .emp, .emp])
    (fun (i : Nat) => D.int i) (fun i => (LA.rw_ R i).getD c 0 != 0) (fun (i : Nat) => D.int i) (by simp [hrg]) rfl rfl (by simp; omega) (fun i hi => by
      rw [List.mem_range'_1] at hi
      have hat := LA.at_rw (R := R) (i := i) (by omega)
      have hok := hR _ (List.mem_of_getElem? hat)
      obtain ⟨f, hf⟩ : ∃ f, (LA.rw_ R i)[c]? = some f := ⟨_, List.getElem?_eq_getElem (by rw [hok.len]; exact hc)⟩
      have hfd : (LA.rw_ R i).getD c 0 = f := by rw [List.getD_eq_getElem?_getD, hf]; rfl
      rw [hfd]
      have e1 : (!decide (f = 0)) = (f != 0) := rfl
      simp [hat, hf, e1]) fun i hi _ => by simp
  have hlc : _ = Out.ok (Rv.own (.lst ((LA.usable R cs.length c).map fun (i : Nat) => D.int i))) _ := hlc
  have hne : oNe (.lst ((LA.usable R cs.length c).map fun (i : Nat) => D.int i)) (.lst []) = some (.val (.bl (!(LA.usable R cs.length c).isEmpty))) := by
    have := v_neNilI ((LA.usable R cs.length c).map fun (i : Nat) => (i : Int))
    rw [List.map_map, List.isEmpty_map] at this
    exact this
  have hgs : LA.gstep p (iv p) (R, cs) c = match LA.usable R cs.length c with
    | [] => (R, cs)
    | u :: _ => (LA.pvt p (iv p ((LA.rw_ (LA.swp R cs.length u) cs.length).getD c 0)) (LA.swp R cs.length u) cs.length c, cs ++ [c]) := rfl
  rw [hgs]
  have hmem : ∀ u ∈ LA.usable R cs.length c, cs.length ≤ u ∧ u < R.length := fun u hu => by
    unfold LA.usable at hu
    have := (List.mem_filter.mp hu).1
    rw [List.mem_range'_1] at this
    omega
  cases hu : LA.usable R cs.length c with
  | nil =>
    rw [hu] at hlc hne
    refine ⟨.val (.int cs.length), .own (.lst []), ?_⟩
    unfold ldB
    simp at hlc hne
    simp [hlc, hne]
  | cons u us =>
    rw [hu] at hlc hne
    obtain ⟨hu1, hu2⟩ := hmem u (by rw [hu]; exact List.mem_cons_self)
    have hm : cs.length < R.length := by omega
    have hsw : LA.Oks p L (LA.swp R cs.length u) := fun r hr => hR r ((LA.swp_mem hm hu2).mp hr)
    have hpv := ev_pivot n hp hsw hL (by rw [LA.swp_len]; exact hl) (m := cs.length) (c := c) (by rw [LA.swp_len]; exact hm) hc
    have hau := LA.at_rw hu2
    have ham := LA.at_rw hm
    have hse : (R.map lD).set cs.length (lD (LA.rw_ R u)) = (R.set cs.length (LA.rw_ R u)).map lD := by rw [List.map_set]
    have hse2 : ((R.map lD).set cs.length (lD (LA.rw_ R u))).set u (lD (LA.rw_ R cs.length)) = (LA.swp R cs.length u).map lD := by simp only [LA.swp, List.map_set]
    have hz2 : sz 2 = true := sz_ok (by omega)
    have hl2 : (cs.map fun (i : Nat) => D.int i).length < sizeLine := by simp; omega
    have hap := ev_appD (d := .int c) hl2
    refine ⟨.val (.int cs.length), .own (.lst (.int u :: us.map fun (i : Nat) => D.int i)), ?_⟩
    unfold ldB
    have hi0 : ∀ xs : List D, ixD (.lst (.int u :: xs)) (.int 0) = some (.val (.int u)) := fun xs => by
      have := v_ix1 (.int u :: xs) 0
      simpa using this
    have hst1 : setD (.int (cs.length : Int)) (lD (LA.rw_ R u)) (.lst (R.map lD)) = some (.lst ((R.map lD).set cs.length (lD (LA.rw_ R u)))) := ev_setD (by simpa using hm)
    have hst2 : setD (.int (u : Int)) (lD (LA.rw_ R cs.length)) (.lst ((R.map lD).set cs.length (lD (LA.rw_ R u)))) = some (.lst ((LA.swp R cs.length u).map lD)) := by
      rw [← hse2]; exact ev_setD (by simpa using hu2)
    simp only [List.map_cons] at hlc
    simp at hlc hne
    have hfp := f_prime p L rows txt
    simp [hlc, hne, hi0, hau, ham, hz2, hst1, hst2, hpv, hfp, hap]
theorem ld_loop (n : Nat) {p : Nat} (hp : P4 p) {L : Nat} {R : List (List Int)} (hR : LA.Oks p L R) (hL : L < 1000) (hl : R.length < 1000) {rows : List (List Int)} {txt : Str} (s3 s4 s5 : Sl) :
    ∃ s3' s4' s5', forL (tNm 3) (ldB (callF tb (n + 1))) (rgD 0 L) [.val (tO p L rows txt), .own (.lst (R.map lD)), .own (.lst []), s3, s4, s5, .emp, .emp] =
      .ok .nx [.val (tO p L rows txt), .own (.lst ((LA.gauss p (iv p) L R).1.map lD)), .own (.lst ((LA.gauss p (iv p) L R).2.map fun (i : Nat) => D.int i)), s3', s4', s5', .emp, .emp] := by
  have main := forL_inv (t := tNm 3) (body := ldB (callF tb (n + 1))) (ds := rgD 0 L)
    (fun i ρ => i ≤ L ∧ ∃ s3 s4 s5, ρ = [.val (tO p L rows txt), .own (.lst (((List.range i).foldl (LA.gstep p (iv p)) (R, [])).1.map lD)), .own (.lst (((List.range i).foldl (LA.gstep p (iv p)) (R, [])).2.map fun (i : Nat) => D.int i)), s3, s4, s5, .emp, .emp])
    (i := 0) (ρ := [.val (tO p L rows txt), .own (.lst (R.map lD)), .own (.lst []), s3, s4, s5, .emp, .emp]) ⟨Nat.zero_le _, s3, s4, s5, rfl⟩ fun i d ρ _ hd ⟨hi, s3, s4, s5, e⟩ => by
      subst e
      obtain ⟨h1, rfl⟩ := rg_at hd
      rw [Nat.sub_zero] at h1 hd ⊢
      have gi := LA.gi_fold hp.inv (iv_ok hp) hR i hi
      have hlen : (((List.range i).foldl (LA.gstep p (iv p)) (R, [])).1).length = R.length := gi.len
      have hcl := gi.le
      obtain ⟨s4', s5', e⟩ := ld_turn n hp (rows := rows) (txt := txt) gi.ok hL (by rw [hlen]; exact hl) h1 hcl s4 s5 rfl
      refine ⟨_, _, rfl, e, by omega, .val (.int i), s4', s5', ?_⟩
      rw [List.range_succ, List.foldl_append]
      rfl
  obtain ⟨ρ', e, _, s3', s4', s5', e2⟩ := main
  refine ⟨s3', s4', s5', ?_⟩
  rw [e, e2, Nat.zero_add, rgD_len]
  rfl
end W
end
section
set_option maxRecDepth 100000
/-! E14: k18, _lead_rows as a whole; _plus. -/
namespace W
open PySem L2 PyProof.Rows CI
abbrev nsD (v : List Nat) : D := .lst (v.map fun (i : Nat) => D.int i)
theorem cut_to (xs : List D) (k : Nat) (h : k ≤ xs.length) : slD (.lst xs) none (some (k : Int)) = some (.own (.lst (xs.take k))) := by
  show some (Rv.own (.lst (cutD xs none (some (k : Int))))) = _
  have h1 : HT.sIx xs.length 0 none = 0 := rfl
  have h2 : HT.sIx xs.length xs.length (some (k : Int)) = k := by
    have h0 : ¬ ((k : Int) < 0) := by omega
    unfold HT.sIx
    simp [h0]
    omega
  unfold CI.cutD
  rw [h1, h2]
  simp
theorem ev_lead (n : Nat) {p : Nat} (hp : P4 p) {L : Nat} {rows : List (List Int)} (hR : LA.Oks p L rows) (hL : L < 1000) (hl : rows.length < 1000) {txt : Str} :
    callF tb (n + 2) "_lead_rows" [.val (tO p L rows txt)] = .ok (.val (.tup [.lst ((LA.red p (iv p) L rows).map lD), nsD (LA.gauss p (iv p) L rows).2])) := by
  have hs : sizeLine = 16777216 := sizeLine_eq
  have h2 : rg1 (.int (L : Int)) = some (rgD 0 L) := rg1_nat (by omega)
  have hz2 : sz 2 = true := sz_ok (by omega)
  have lc := ev_lcN (i := 6) (it := (ciSeq (cFld (["Table"] : List Str) ("rows" : Str) (cVar 0)))) (elt := (cBlt (uD gList) (cCons (cA (cVar 6)) cNil))) (xs := rows) (s := .emp)
    (ρ := [.val (tO p L rows txt), .emp, .emp, .emp, .emp, .emp, .emp, .emp]) (ρ1 := [.val (tO p L rows txt), .emp, .emp, .emp, .emp, .emp, .emp, .emp]) tD lD (by simp [f_rows]) rfl rfl (by omega) fun x _ => by simp
  obtain ⟨s3, s4, s5, e⟩ := ld_loop n hp hR hL hl (rows := rows) (txt := txt) .emp .emp .emp
  have gi := LA.gi_fold hp.inv (iv_ok hp) hR L (Nat.le_refl _)
  have hgl : (LA.gauss p (iv p) L rows).2.length ≤ (LA.gauss p (iv p) L rows).1.length := gi.le
  have hct := cut_to ((LA.gauss p (iv p) L rows).1.map lD) (LA.gauss p (iv p) L rows).2.length (by simpa using hgl)
  rw [call_fn tb__lead_rows rfl]
  unfold ldB at e
  have hred : ((LA.gauss p (iv p) L rows).1.map lD).take (LA.gauss p (iv p) L rows).2.length = (LA.red p (iv p) L rows).map lD := by rw [← List.map_take]; rfl
  rw [hred] at hct
  simp [FI__lead_rows, B__lead_rows, lc, f_size, h2, e, hct, hz2]
theorem zs_tD' (L : Nat) (h : 1 ≤ L) (h2 : L < 1000) : oMul (.tup [.int 0]) (.int (L : Int)) = some (.val (tD (LA.zs L))) := by
  show (if decide (1 ≤ (L : Int)) && decide ((L : Int) ≤ 1000) && !([D.int 0] : List D).isEmpty && decide (([D.int 0] : List D).length ≤ 1000) then some (Rv.val (.tup (List.replicate (L : Int).toNat [D.int 0]).flatten)) else none) = _
  rw [if_pos (by simp; omega), Int.toNat_natCast, zs_tD]
theorem zs_lD' (L : Nat) (h2 : L < 1000) : oMul (.lst [.int 0]) (.int (L : Int)) = some (.own (lD (LA.zs L))) := by
  have hs : sizeLine = 16777216 := sizeLine_eq
  simp only [oMul]
  rw [if_pos (by simp [sz]; omega), Int.toNat_natCast, zs_tD]
/-- the program's _plus -/
theorem ev_plusP (n : Nat) {L : Nat} (hL : L < 1000) {w r : List Int} (t : Int) {p : Nat} (hp : P4 p) (hw : w.length = L) (hr : r.length = L) (ht : 0 ≤ t) (ht' : t < 100) : callF tb (n + 1) "_plus" [.val (.tup (zD w)), .val (.lst (zD r)), .val (.int t), .val (.int p)] = .ok (.val (.tup (zD (LA.ax p w t r)))) := by
  rw [call_fn tb__plus rfl]
  have hs : sizeLine = 16777216 := sizeLine_eq
  have hpp := hp.pos
  have lc := ev_lcP (i := 4) (j := 5) (it := (ciZip (qV 0) (qV 1))) (elt := (cBin oMod (cBin oAdd (cVar 4) (cBin oMul (cVar 2) (cVar 5))) (cVar 3))) (xs := List.zip w r) (s := .emp) (s' := .emp)
    (ρ := [.val (.tup (zD w)), .val (.lst (zD r)), .val (.int t), .val (.int p), .emp, .emp]) (ρ1 := [.val (.tup (zD w)), .val (.lst (zD r)), .val (.int t), .val (.int p), .emp, .emp])
    (fun q => D.int q.1) (fun q => D.int q.2) (fun q => .int ((q.1 + t * q.2) % p)) (by decide) (by rw [← zip_z]; rfl) rfl rfl rfl (by simp; omega) fun x _ => by
      have hm : mulOk t x.2 = true := mulOk_small (by omega) (by omega)
      simp [hm, hp.ne, Int.fmod_eq_emod_of_nonneg _ (Int.le_of_lt hpp)]
  have hax : (List.zip w r).map (fun q => D.int ((q.1 + t * q.2) % p)) = zD (LA.ax p w t r) := by
    have := zip_zw (fun a b => (a + t * b) % p) w r
    unfold LA.ax
    rw [← this, zD, List.map_map]
    rfl
  rw [hax] at lc
  have hlk : ∀ (m : Mn Rv), cLock 1 (cLock 0 m) [.val (.tup (zD w)), .val (.lst (zD r)), .val (.int t), .val (.int p), .emp, .emp] = m [.val (.tup (zD w)), .val (.lst (zD r)), .val (.int t), .val (.int p), .emp, .emp] := fun m => rfl
  simp [FI__plus, B__plus, hlk, lc]
end W
end
section
set_option maxRecDepth 100000
/-! E15: k18, words. -/
namespace W
open PySem L2 PyProof.Rows CI
theorem grow2_lenL {n L : Nat} {F : List (List Int)} {r : List Int} (hF : ∀ w ∈ F, w.length = L) (hr : r.length = L) : ∀ w ∈ LA.grow2 n F r, w.length = L := fun w hw => by
  obtain ⟨u, t, hu, _, _, rfl⟩ := (LA.grow_mem.2).mp hw
  exact LA.ax_len (hF u hu) hr
theorem mulOk_pow (c : Int) {p : Nat} (hp : P4 p) : mulOk c (p : Int) = true := by
  have := hp.le
  unfold mulOk smallI
  simp
  left; right; omega
theorem wd_turn (n : Nat) {p : Nat} (hp : P4 p) {L : Nat} (hL : L < 1000) {rows : List (List Int)} {txt : Str} {F : List (List Int)} {r : List Int} (hF : ∀ w ∈ F, w.length = L) (hr : r.length = L) (hz : F.length < 100000) (s1 s2 s3 : Sl) :
    cLock 4 (cSet 4 (cLc2 (ciVar 4) (.nm 6) cYes (ciRg1 (cFld (["Table"] : List Str) ("prime" : Str) (cVar 0))) (.nm 7) cYes (cCall (callF tb (n + 1)) ("_plus" : Str) (cCons (cA (cVar 6)) (cCons (cA (cVar 5)) (cCons (cA (cVar 7)) (cCons (cA (cFld (["Table"] : List Str) ("prime" : Str) (cVar 0))) cNil))))) [6, 7] [7])) [.val (tO p L rows txt), s1, s2, s3, .own (.lst (F.map tD)), .val (lD r), .emp, .emp] =
      .ok .nx [.val (tO p L rows txt), s1, s2, s3, .own (.lst ((LA.grow2 p F r).map tD)), .val (lD r), .emp, .emp] := by
  have hs : sizeLine = 16777216 := sizeLine_eq
  have hp7 := hp.le
  have h2 : rg1 (.int (p : Int)) = some (rgD 0 p) := rg1_nat (by omega)
  have hb := ev_lc2F (i := 6) (j := 7) (it := ciVar 4) (cond := cYes) (it1 := (ciRg1 (cFld (["Table"] : List Str) ("prime" : Str) (cVar 0)))) (cond1 := cYes) (elt := (cCall (callF tb (n + 1)) ("_plus" : Str) (cCons (cA (cVar 6)) (cCons (cA (cVar 5)) (cCons (cA (cVar 7)) (cCons (cA (cFld (["Table"] : List Str) ("prime" : Str) (cVar 0))) cNil))))))
    (ρ := [.val (tO p L rows txt), s1, s2, s3, .bor (.lst (F.map tD)), .val (lD r), .emp, .emp]) (ρ1 := [.val (tO p L rows txt), s1, s2, s3, .bor (.lst (F.map tD)), .val (lD r), .emp, .emp]) (xs := F) (s := .emp) (s' := .emp)
    tD (fun _ => true) (fun _ => LA.rg p) D.int (fun _ _ => true) (fun w t => tD (LA.ax p w t r)) (by decide) rfl rfl rfl rfl (by
      rw [List.length_flatMap, List.map_const', List.sum_replicate_nat, LA.rg_len]
      have : F.length * p ≤ F.length * 7 := Nat.mul_le_mul_left _ hp7
      omega) (fun _ _ => rfl) (fun x hx _ => by simp [f_prime, h2, rgD_cast]) (fun _ _ _ _ _ => rfl) fun x hx _ t ht _ => by
        have ht := LA.mem_rg.mp ht
        have := ev_plusP n hL t hp (hF x hx) hr ht.1 (by omega)
        simp [f_prime, this]
  have e1 : (F.filter (fun _ => true)).flatMap (fun x => ((LA.rg p).filter (fun _ => true)).map (fun t => tD (LA.ax p x t r))) = (LA.grow2 p F r).map tD := by
    rw [List.filter_eq_self.mpr (fun _ _ => rfl), List.filter_eq_self.mpr (fun _ _ => rfl)]
    unfold LA.grow2
    rw [List.map_flatMap]
    simp [List.map_map, Function.comp_def]
  rw [e1] at hb
  show Out.mapE (unbor 4) (cSet 4 _ [.val (tO p L rows txt), s1, s2, s3, .bor (.lst (F.map tD)), .val (lD r), .emp, .emp]) = _
  simp only [ev_set, ev_bnd]
  rw [hb]
  rfl
theorem wd_loop (n : Nat) {p : Nat} (hp : P4 p) {L : Nat} (hL : L < 1000) {rows : List (List Int)} {txt : Str} (s1 s2 s3 : Sl) : ∀ (Q F : List (List Int)) (s5 : Sl), (∀ w ∈ F, w.length = L) → (∀ r ∈ Q, r.length = L) → F.length * p ^ Q.length < 100000 →
    ∃ s5', forL (tNm 5) (cLock 4 (cSet 4 (cLc2 (ciVar 4) (.nm 6) cYes (ciRg1 (cFld (["Table"] : List Str) ("prime" : Str) (cVar 0))) (.nm 7) cYes (cCall (callF tb (n + 1)) ("_plus" : Str) (cCons (cA (cVar 6)) (cCons (cA (cVar 5)) (cCons (cA (cVar 7)) (cCons (cA (cFld (["Table"] : List Str) ("prime" : Str) (cVar 0))) cNil))))) [6, 7] [7]))) (Q.map lD) [.val (tO p L rows txt), s1, s2, s3, .own (.lst (F.map tD)), s5, .emp, .emp] =
      .ok .nx [.val (tO p L rows txt), s1, s2, s3, .own (.lst ((Q.foldl (LA.grow2 p) F).map tD)), s5', .emp, .emp]
  | [], F, s5, _, _, _ => ⟨s5, rfl⟩
  | r :: Q, F, s5, hF, hQ, hz => by
    have hr := hQ r List.mem_cons_self
    have hp1 := hp.pos
    have hz1 : F.length < 100000 := by
      have : F.length * 1 ≤ F.length * p ^ (r :: Q).length := Nat.mul_le_mul_left _ (Nat.pow_pos (by omega))
      omega
    obtain ⟨s5', e⟩ := wd_loop n hp hL (rows := rows) (txt := txt) s1 s2 s3 Q (LA.grow2 p F r) (.val (lD r)) (grow2_lenL hF hr) (fun q hq => hQ q (List.mem_cons_of_mem _ hq)) (by
      rw [LA.grow2_len, Nat.mul_assoc, Nat.mul_comm p, ← Nat.pow_succ]
      exact hz)
    refine ⟨s5', ?_⟩
    rw [List.map_cons, forL_cnx (ρ1 := [.val (tO p L rows txt), s1, s2, s3, .own (.lst (F.map tD)), .val (lD r), .emp, .emp]) rfl (.inl (wd_turn n hp hL hF hr hz1 s1 s2 s3)), e]
    rfl
theorem wd_count {p : Nat} (hp : P4 p) {L : Nat} {rows : List (List Int)} {txt : Str} (s1 s4 s5 s6 s7 : Sl) : ∀ (Q : List (List Int)) (c : Nat) (s2 : Sl),
    ∃ s2', forL (tNm 2) (cSet 3 (cBin oMul (cVar 3) (cFld (["Table"] : List Str) ("prime" : Str) (cVar 0)))) (Q.map lD) [.val (tO p L rows txt), s1, s2, .val (.int c), s4, s5, s6, s7] =
      .ok .nx [.val (tO p L rows txt), s1, s2', .val (.int ((c * p ^ Q.length : Nat) : Int)), s4, s5, s6, s7]
  | [], c, s2 => ⟨s2, by simp [forL]⟩
  | r :: Q, c, s2 => by
    obtain ⟨s2', e⟩ := wd_count hp (L := L) (rows := rows) (txt := txt) s1 s4 s5 s6 s7 Q (c * p) (.val (lD r))
    refine ⟨s2', ?_⟩
    rw [List.map_cons, forL_cnx (ρ1 := [.val (tO p L rows txt), s1, .val (lD r), .val (.int c), s4, s5, s6, s7]) (ρ2 := [.val (tO p L rows txt), s1, .val (lD r), .val (.int ((c * p : Nat) : Int)), s4, s5, s6, s7]) rfl (.inl (by simp [f_prime, mulOk_pow _ hp])), e]
    rw [List.length_cons, Nat.pow_succ, Nat.mul_assoc, Nat.mul_comm p]
theorem red_ok' {p : Nat} (hp : P4 p) {L : Nat} {rows : List (List Int)} (h : LA.Oks p L rows) : LA.Oks p L (LA.red p (iv p) L rows) := LA.red_ok hp.inv (iv_ok hp) h
theorem prog_lenL {n L : Nat} : ∀ (Q F : List (List Int)), (∀ w ∈ F, w.length = L) → (∀ r ∈ Q, r.length = L) → ∀ w ∈ Q.foldl (LA.grow2 n) F, w.length = L
  | [], F, hF, _ => hF
  | r :: Q, F, hF, hQ => prog_lenL Q _ (grow2_lenL hF (hQ r List.mem_cons_self)) fun q hq => hQ q (List.mem_cons_of_mem _ hq)
/-- the words of a table -/
noncomputable def wdsF (p L : Nat) (rows : List (List Int)) : List (List Int) := sortT (LA.progAll p L (LA.red p (iv p) L rows))
theorem ev_words (n : Nat) {p : Nat} (hp : P4 p) {L : Nat} {rows : List (List Int)} (hR : LA.Oks p L rows) (h1 : 1 ≤ L) (hL : L < 1000) (hl : rows.length < 1000) {txt : Str} :
    callF tb (n + 3) "words" [.val (tO p L rows txt)] = if 2500 < p ^ (LA.red p (iv p) L rows).length then .exc ("TooLarge", []) else .ok (.val (.tup ((wdsF p L rows).map tD))) := by
  have hs : sizeLine = 16777216 := sizeLine_eq
  have hld := ev_lead (n) hp hR hL hl (txt := txt)
  have hz1 : sz 1 = true := sz_ok (by omega)
  generalize hQ : LA.red p (iv p) L rows = Q at hld
  have hQo : LA.Oks p L Q := hQ ▸ red_ok' hp hR
  have hQl : ∀ r ∈ Q, r.length = L := fun r h => (hQo r h).len
  obtain ⟨s2, e2⟩ := wd_count hp (L := L) (rows := rows) (txt := txt) (.val (.lst (Q.map lD))) .emp .emp .emp .emp Q 1 (.val (nsD (LA.gauss p (iv p) L rows).2))
  simp only [Nat.one_mul] at e2
  have e2 : forL _ _ _ [_, _, _, .val (.int 1), _, _, _, _] = _ := e2
  rw [call_fn tb_words rfl]
  by_cases hb : 2500 < p ^ Q.length
  · rw [if_pos hb]
    have hb' : (2500 : Int) < (p : Int) ^ Q.length := by exact_mod_cast hb
    have hlk : ∀ (m : Mn Fl) (a b c d e f g h : Sl), cLock 1 m [a, .val (.lst (Q.map lD)), b, c, d, e, f, g] = m [a, .val (.lst (Q.map lD)), b, c, d, e, f, g] := fun m _ _ _ _ _ _ _ _ => rfl
    simp at e2
    simp [FI_words, B_words, hld, hlk, e2, hb', cRse]
  · rw [if_neg hb]
    have hb' : ¬ (2500 : Int) < (p : Int) ^ Q.length := by exact_mod_cast hb
    have hlk : ∀ (m : Mn Fl) (a b c d e f g h : Sl), cLock 1 m [a, .val (.lst (Q.map lD)), b, c, d, e, f, g] = m [a, .val (.lst (Q.map lD)), b, c, d, e, f, g] := fun m _ _ _ _ _ _ _ _ => rfl
    obtain ⟨s5, e5⟩ := wd_loop (n + 1) hp hL (rows := rows) (txt := txt) (.val (.lst (Q.map lD))) s2 (.val (.int ((p ^ Q.length : Nat) : Int))) Q [LA.zs L] .emp (fun w hw => by
      obtain rfl : w = LA.zs L := by simpa using hw
      simp [LA.zs]) hQl (by simp; omega)
    have hpl : ∀ w ∈ LA.progAll p L Q, w.length = L := prog_lenL Q _ (fun w hw => by
      obtain rfl : w = LA.zs L := by simpa using hw
      simp [LA.zs]) hQl
    have hne : LA.progAll p L Q ≠ [] := fun e => by
      have h := (hQ ▸ (LA.red_lst hp.inv (iv_ok hp) hR).2 : (LA.progAll p L Q).length = p ^ Q.length)
      rw [e] at h
      have : 0 < p ^ Q.length := Nat.pow_pos (by have := hp.pos; omega)
      simp at h
      omega
    have hsrt : gSorted [.lst ((LA.progAll p L Q).map tD)] = some (.own (.lst ((sortT (LA.progAll p L Q)).map tD))) := v_sorted hne fun v hv e => by
      have := hpl v hv
      rw [e] at this
      simp at this
      omega
    have hzs := zs_tD' L h1 hL
    have hsrt : gSorted [.lst ((Q.foldl (LA.grow2 p) [LA.zs L]).map tD)] = some (.own (.lst ((sortT (LA.progAll p L Q)).map tD))) := hsrt
    simp at e2 e5
    simp [FI_words, B_words, hld, hlk, e2, hb', f_size, hzs, hz1, e5, hsrt, wdsF, hQ]
end W
end
section
set_option maxRecDepth 100000
/-! E16: k18, Table. -/
namespace W
open PySem L2 PyProof.Rows CI
theorem txt_len (sep : Str) : ∀ l : List Str, (Txt.join sep l).length ≤ (l.map (·.length)).sum + l.length * sep.length := by
  intro l
  show (Builtin.Str.glued sep l).length ≤ _
  rw [StrLaws.glued_eq_join]
  induction l with
  | nil => simp [Str.join, Str.empty, Str.length]
  | cons a r ih =>
    cases r with
    | nil => simp [Str.join]
    | cons b r =>
      have e : Str.join sep (a :: b :: r) = a ++ sep ++ Str.join sep (b :: r) := rfl
      rw [e, Str.length_append, Str.length_append]
      simp only [List.map_cons, List.sum_cons, List.length_cons] at ih ⊢
      simp only [Nat.add_mul, Nat.one_mul] at ih ⊢
      omega
theorem p_prime (v : D) : putD "Table" "prime" v (.obj "Table" []) = some (.obj "Table" [("prime", v)]) := by kernel_rfl
theorem p_size (u v : D) : putD "Table" "size" v (.obj "Table" [("prime", u)]) = some (.obj "Table" [("prime", u), ("size", v)]) := by kernel_rfl
theorem p_rows (a b v : D) : putD "Table" "rows" v (.obj "Table" [("prime", a), ("size", b)]) = some (.obj "Table" [("prime", a), ("size", b), ("rows", v)]) := by kernel_rfl
theorem p_text (a b c v : D) : putD "Table" "text" v (.obj "Table" [("prime", a), ("size", b), ("rows", c)]) = some (.obj "Table" [("prime", a), ("size", b), ("rows", c), ("text", v)]) := by kernel_rfl
theorem f3_rows (a b c : D) : fldD ["Table"] "rows" (.obj "Table" [("prime", a), ("size", b), ("rows", c)]) = some c := by kernel_rfl
theorem f3_prime (a b c : D) : fldD ["Table"] "prime" (.obj "Table" [("prime", a), ("size", b), ("rows", c)]) = some a := by kernel_rfl
theorem f3_size (a b c : D) : fldD ["Table"] "size" (.obj "Table" [("prime", a), ("size", b), ("rows", c)]) = some b := by kernel_rfl
theorem ev_fldS (i : Nat) (c f : Str) (e : Mn Rv) (ρ : En) : (cFldS i c f e) ρ = (bnd (cV e) fun d => bnd (mutU i (putD c f d)) fun _ => ret .nx) ρ := rfl
theorem prime_in {p : Nat} (hp : P4 p) : oNotIn (.int (p : Int)) (.tup [.int 2, .int 3, .int 5, .int 7]) = some (.val (.bl false)) := by
  rcases hp with rfl | rfl | rfl | rfl <;> rfl
def iS (i : Int) : Str := ((toString i : String) : Str)
theorem dig_str {i : Int} (h0 : 0 ≤ i) (h7 : i < 7) : gStr (.int i) = some (.val (.str (iS i))) ∧ (iS i).length = 1 := by
  have : i = 0 ∨ i = 1 ∨ i = 2 ∨ i = 3 ∨ i = 4 ∨ i = 5 ∨ i = 6 := by omega
  rcases this with rfl | rfl | rfl | rfl | rfl | rfl | rfl <;> exact ⟨rfl, by decide +kernel⟩
def rowT (r : List Int) : Str := Txt.join "" (r.map iS)
theorem strs_map {β : Type} (g : β → Str) : ∀ l : List β, strsD (l.map fun x => D.str (g x)) = some (l.map g)
  | [] => rfl
  | a :: l => by
    show (strsD (l.map fun x => D.str (g x))).map (g a :: ·) = _
    rw [strs_map g l]; rfl
theorem sum_ones {β : Type} (g : β → Str) (k : Nat) : ∀ l : List β, (∀ x ∈ l, (g x).length ≤ k) → ((l.map g).map (·.length)).sum ≤ l.length * k
  | [], _ => by simp
  | a :: l, h => by
    have := sum_ones g k l fun x hx => h x (List.mem_cons_of_mem _ hx)
    have h2 := h a List.mem_cons_self
    simp only [List.map_cons, List.sum_cons, List.length_cons, Nat.add_mul, Nat.one_mul]
    omega
theorem join_map {β : Type} (sep : Str) (g : β → Str) (k : Nat) (l : List β) (h : ∀ x ∈ l, (g x).length ≤ k) (hl : l.length ≤ 100) (hk : k ≤ 100) (hs : sep.length ≤ 1) : joinD (.str sep) (.lst (l.map fun x => D.str (g x))) = some (.val (.str (Txt.join sep (l.map g)))) ∧ (Txt.join sep (l.map g)).length ≤ l.length * k + l.length := by
  have h1 := sum_ones g k l h
  have h2 := txt_len sep (l.map g)
  have h3 : l.length * k ≤ 100 * 100 := Nat.mul_le_mul hl hk
  have h4 : l.length * sep.length ≤ l.length * 1 := Nat.mul_le_mul_left _ hs
  rw [List.length_map] at h2
  constructor
  · show (((some (l.map fun x => D.str (g x))).bind strsD).bind _) = _
    rw [Option.bind_some, strs_map, Option.bind_some, if_pos (by rw [List.length_map]; omega)]
    rfl
  · omega
theorem tb_check {L : Nat} {R : List (List Int)} (hR : ∀ r ∈ R, r.length = L) {r0 : List Int} (h0 : R[0]? = some r0) (S2 a b c d : Sl) (hS : S2 = .val (.lst (R.map lD)) ∨ S2 = .bor (.lst (R.map lD))) : ∀ (Q : List (List Int)) (s3 : Sl), (∀ q ∈ Q, q ∈ R) → okOwn [s3] [0] = true →
    ∃ s3', okOwn [s3'] [0] = true ∧ forL (tNm 3) (cIfS (cTst (cBin oNe (cBlt (uD gLen) (cCons (cA (cVar 3)) cNil)) (cBlt (uD gLen) (cCons (cA (cBin ixD (cVar 2) (cCst (.int 0)))) cNil))))
    (cRse ("BadRows" : Str))
    cPass) (Q.map lD) [a, b, S2, s3, c, d] = .ok .nx [a, b, S2, s3', c, d]
  | [], s3, _, h => ⟨s3, h, rfl⟩
  | q :: Q, s3, hQ, h => by
    obtain ⟨s3', h', e⟩ := tb_check hR h0 S2 a b c d hS Q (.val (lD q)) (fun x hx => hQ x (List.mem_cons_of_mem _ hx)) rfl
    refine ⟨s3', h', ?_⟩
    have hq := hR q (hQ q List.mem_cons_self)
    have hr0 := hR r0 (List.mem_of_getElem? h0)
    have hix : ixD (.lst (R.map lD)) (.int 0) = some (.val (lD r0)) := by
      have := v_ix1 (R.map lD) 0
      rw [List.getElem?_map, h0] at this
      simpa using this
    rw [List.map_cons, forL_cnx (ρ1 := [a, b, S2, .val (lD q), c, d]) (ρ2 := [a, b, S2, .val (lD q), c, d]) rfl (.inl ?_), e]
    rcases hS with rfl | rfl <;> simp [hix, hq, hr0]
end W
end
section
set_option maxRecDepth 100000
/-! E17: k18, Table, as a whole. -/
namespace W
open PySem L2 PyProof.Rows CI
def mdR (p : Nat) (R : List (List Int)) : List (List Int) := R.map fun r => r.map fun e => e % p
theorem mdR_ok {p : Nat} {L : Nat} {R : List (List Int)} (h : LA.Oks p L R) : mdR p R = R := by
  unfold mdR
  conv => rhs; rw [← List.map_id R]
  apply List.map_congr_left
  intro r hr
  conv => rhs; rw [id, ← List.map_id r]
  apply List.map_congr_left
  intro e he
  have := ok_bd (h r hr) e he
  exact Int.emod_eq_of_lt this.1 this.2
noncomputable def tbRows : Mn Rv := (cLc (ciVar 2) (.nm 3) cYes (cBlt (uD gTuple) (cCons (cA (cLock 3 (cLc (ciVar 3) (.nm 5) cYes (cBin oMod (cVar 5) (cVar 1)) [5]))) cNil)) [3])
theorem tb_rows {p : Nat} (hp : P4 p) {L : Nat} (hL : L < 1000) {R : List (List Int)} (hR : ∀ r ∈ R, r.length = L) (hl : R.length < 1000) (a S2 s3 : Sl) (hS : S2 = .val (.lst (R.map lD)) ∨ S2 = .bor (.lst (R.map lD))) (h3 : okOwn [s3] [0] = true) :
    tbRows [a, .val (.int p), S2, s3, .emp, .emp] = .ok (.own (.lst ((mdR p R).map tD))) [a, .val (.int p), S2, s3, .emp, .emp] := by
  have hs : sizeLine = 16777216 := sizeLine_eq
  have hpp := hp.pos
  have hin : ∀ r ∈ R, cLc (ciVar 3) (.nm 5) cYes (cBin oMod (cVar 5) (cVar 1)) [5] [a, .val (.int p), S2, .val (lD r), .emp, .emp] = .ok (.own (.lst (r.map fun e => D.int (e % p)))) [a, .val (.int p), S2, .val (lD r), .emp, .emp] := fun r hr =>
    ev_lcN (i := 5) (s := .emp) D.int (fun e => .int (e % p)) (by simp) rfl rfl (by rw [hR r hr]; omega) fun x _ => by
      simp [hp.ne, Int.fmod_eq_emod_of_nonneg _ (Int.le_of_lt hpp)]
  have hlk : ∀ (m : Mn Rv) (r : List Int), cLock 3 m [a, .val (.int p), S2, .val (lD r), .emp, .emp] = m [a, .val (.int p), S2, .val (lD r), .emp, .emp] := fun _ _ => rfl
  have := ev_lcN (i := 3) (s := s3) (it := ciVar 2) (elt := (cBlt (uD gTuple) (cCons (cA (cLock 3 (cLc (ciVar 3) (.nm 5) cYes (cBin oMod (cVar 5) (cVar 1)) [5]))) cNil)))
    (ρ := [a, .val (.int p), S2, s3, .emp, .emp]) (ρ1 := [a, .val (.int p), S2, s3, .emp, .emp]) (xs := R) lD (fun r => tD (r.map fun e => e % p)) (by rcases hS with rfl | rfl <;> simp) rfl (by simpa [okOwn] using h3) (by omega) fun r hr => by
      have h1 := hin r hr
      have e : (r.map fun e => D.int (e % p)) = zD (r.map fun e => e % p) := by simp [zD]
      rw [e] at h1
      simp [hlk, h1]
  have e : (R.map fun r => tD (r.map fun e => e % p)) = (mdR p R).map tD := by simp [mdR]
  rw [e] at this
  unfold tbRows
  rw [this]
noncomputable def tbDigs : Mn Rv := (cLc (ciSeq (cFld (["Table"] : List Str) ("rows" : Str) (cVar 0))) (.nm 3) cYes (cM1 joinD (cCst (.str "")) (cLock 3 (cLc (ciVar 3) (.nm 5) cYes (cBlt (uD gStr) (cCons (cA (cVar 5)) cNil)) [5]))) [3])
theorem tb_digs {p : Nat} (hp : P4 p) {L : Nat} (hL : L ≤ 100) {R : List (List Int)} (hR : LA.Oks p L R) (hl : R.length < 1000) (b c S1 S2 s3 : Sl) (x y : D) (h3 : okOwn [s3] [0] = true) :
    tbDigs [.own (.obj "Table" [("prime", x), ("size", y), ("rows", .tup (R.map tD))]), S1, S2, s3, .emp, .emp] = .ok (.own (.lst (R.map fun r => D.str (rowT r)))) [.own (.obj "Table" [("prime", x), ("size", y), ("rows", .tup (R.map tD))]), S1, S2, s3, .emp, .emp] := by
  have hs : sizeLine = 16777216 := sizeLine_eq
  have hpp := hp.pos
  have hp7 := hp.le
  have hbd := fun r hr x hx => (ok_bd (hR r hr) x hx)
  generalize hO : D.obj "Table" [("prime", x), ("size", y), ("rows", .tup (R.map tD))] = O
  have hfr : fldD ["Table"] "rows" O = some (.tup (R.map tD)) := hO ▸ f3_rows _ _ _
  have hin : ∀ r ∈ R, cLc (ciVar 3) (.nm 5) cYes (cBlt (uD gStr) (cCons (cA (cVar 5)) cNil)) [5] [.own O, S1, S2, .val (tD r), .emp, .emp] = .ok (.own (.lst (r.map fun (e : Int) => D.str (iS e)))) [.own O, S1, S2, .val (tD r), .emp, .emp] := fun r hr =>
    ev_lcN (i := 5) (s := .emp) D.int (fun (e : Int) => .str (iS e)) (by simp) rfl rfl (by rw [(hR r hr).len]; omega) fun x hx => by
      have hx := hbd r hr x hx
      have hg := (dig_str hx.1 (by omega)).1
      simp [hg]
  have hlk : ∀ (m : Mn Rv) (r : List Int), cLock 3 m [.own O, S1, S2, .val (tD r), .emp, .emp] = m [.own O, S1, S2, .val (tD r), .emp, .emp] := fun _ _ => rfl
  unfold tbDigs
  refine ev_lcN (i := 3) (s := s3) (it := (ciSeq (cFld (["Table"] : List Str) ("rows" : Str) (cVar 0)))) (ρ := [.own O, S1, S2, s3, .emp, .emp]) (ρ1 := [.own O, S1, S2, s3, .emp, .emp]) (xs := R) tD (fun r => D.str (rowT r)) (by simp [hfr]) rfl (by simpa [okOwn] using h3) (by omega) fun r hr => ?_
  have h1 := hin r hr
  have hj := join_map (sep := "") iS 1 r (fun x hx => by
    have hx := hbd r hr x hx
    rw [(dig_str hx.1 (by omega)).2]; exact Nat.le_refl _) (by rw [(hR r hr).len]; exact hL) (by omega) (by decide)
  have hj1 := hj.1
  have hst : isStr (.str "") = true := rfl
  simp [cM1, hst, hlk, h1, hj1, rowT]
theorem row_len {p : Nat} (hp : P4 p) {L : Nat} (hL : L ≤ 10) {R : List (List Int)} (hR : LA.Oks p L R) : ∀ r ∈ R, (rowT r).length ≤ 20 := fun r hr => by
  have hbd := fun x hx => (ok_bd (hR r hr) x hx)
  have hp7 := hp.le
  have hj := (join_map (sep := "") iS 1 r (fun x hx => by
    have hx := hbd x hx
    rw [(dig_str hx.1 (by omega)).2]; exact Nat.le_refl _) (by rw [(hR r hr).len]; omega) (by omega) (by decide)).2
  have := (hR r hr).len
  unfold rowT
  omega
theorem mdR_oks {p : Nat} (hp : P4 p) {L : Nat} {R : List (List Int)} (h : ∀ r ∈ R, r.length = L) : LA.Oks p L (mdR p R) := fun q hq => by
  obtain ⟨r, hr, rfl⟩ := List.mem_map.mp hq
  have hpp := hp.pos
  refine ⟨by simpa using h r hr, fun i hi => ?_⟩
  rw [List.getD_eq_getElem?_getD, List.getElem?_map]
  cases r[i]? with
  | none => exact ⟨Int.le_refl _, hpp⟩
  | some e => exact ⟨Int.emod_nonneg _ (by omega), Int.emod_lt_of_pos _ hpp⟩
theorem small_fmt {i : Nat} (h : i ≤ 10) : fmtD (.int (i : Int)) = some (iS i) ∧ (iS i).length ≤ 2 := by
  have : i = 0 ∨ i = 1 ∨ i = 2 ∨ i = 3 ∨ i = 4 ∨ i = 5 ∨ i = 6 ∨ i = 7 ∨ i = 8 ∨ i = 9 ∨ i = 10 := by omega
  rcases this with rfl | rfl | rfl | rfl | rfl | rfl | rfl | rfl | rfl | rfl | rfl <;> exact ⟨rfl, by decide +kernel⟩
theorem ev_table (n : Nat) {p : Nat} (hp : P4 p) {L : Nat} (h1 : 1 ≤ L) (hL : L ≤ 10) {R : List (List Int)} (hR : ∀ r ∈ R, r.length = L) (hne : R ≠ []) (hl : R.length ≤ 10) (q : Rv) (hq : q = .val (.lst (R.map lD)) ∨ q = .bor (.lst (R.map lD))) :
    ∃ txt, callF tb (n + 1) "Table" [.val (.int p), q] = .ok (.val (tO p L (mdR p R) txt)) := by
  have hs : sizeLine = 16777216 := sizeLine_eq
  obtain ⟨r0, hr0⟩ : ∃ r0, R[0]? = some r0 := by
    cases R with
    | nil => exact absurd rfl hne
    | cons a b => exact ⟨a, rfl⟩
  have hr0l := hR r0 (List.mem_of_getElem? hr0)
  have hix : ixD (.lst (R.map lD)) (.int 0) = some (.val (lD r0)) := by
    have := v_ix1 (R.map lD) 0
    rw [List.getElem?_map, hr0] at this
    simpa using this
  have hoks := mdR_oks hp hR
  have hRn : ¬ R.length = 0 := fun e => hne (List.length_eq_zero_iff.mp e)
  have key : ∀ S2 : Sl, (S2 = .val (.lst (R.map lD)) ∨ S2 = .bor (.lst (R.map lD))) → ∃ txt, initEnd "Table" (B_Table (callF tb n) [.own (.obj "Table" []), .val (.int p), S2, .emp, .emp, .emp]) = .ok (.val (tO p L (mdR p R) txt)) := fun S2 hS => by
    obtain ⟨s3, h3, e3⟩ := tb_check hR hr0 S2 (.own (.obj "Table" [])) (.val (.int p)) .emp .emp hS R .emp (fun _ h => h) rfl
    obtain ⟨O3, hO3⟩ : ∃ O : D, O = .obj "Table" [("prime", .int p), ("size", .int L), ("rows", .tup ((mdR p R).map tD))] := ⟨_, rfl⟩
    obtain ⟨O2, hO2⟩ : ∃ O : D, O = .obj "Table" [("prime", .int p), ("size", .int L)] := ⟨_, rfl⟩
    have hpr : putD "Table" "rows" (.tup ((mdR p R).map tD)) O2 = some O3 := by rw [hO2, hO3]; exact p_rows _ _ _
    have hpz : putD "Table" "size" (.int L) (.obj "Table" [("prime", .int p)]) = some O2 := by rw [hO2]; exact p_size _ _
    have er := tb_rows hp (L := L) (by omega) hR (by omega) (.own O2) S2 s3 hS h3
    have ed := tb_digs hp (L := L) (by omega) hoks (by simp [mdR]; omega) .emp .emp (.val (.int p)) S2 s3 (.int p) (.int L) h3
    unfold tbRows at er
    unfold tbDigs at ed
    obtain ⟨j1, j2⟩ := join_map (sep := " ") rowT 20 (mdR p R) (row_len hp hL hoks) (by simp [mdR]; omega) (by omega) (by decide)
    obtain ⟨fp, fp2⟩ := small_fmt (i := p) (by have := hp.le; omega)
    obtain ⟨fl, fl2⟩ := small_fmt (i := L) hL
    have hst : isStr (.str " ") = true := rfl
    have hml : (mdR p R).length ≤ 10 := by simpa [mdR] using hl
    have hpi := prime_in hp
    have f1 : fldD ["Table"] "prime" O3 = some (.int p) := by rw [hO3]; exact f3_prime _ _ _
    have f2 : fldD ["Table"] "size" O3 = some (.int L) := by rw [hO3]; exact f3_size _ _ _
    rw [← hO3] at ed
    have pt : ∀ v, putD "Table" "text" (.str v) O3 = some (tO p L (mdR p R) v) := fun v => by rw [hO3]; exact p_text _ _ _ _
    have z1 : sz (Str.empty ++ iS p).length = true := sz_ok (by rw [Str.length_append]; have : Str.empty.length = 0 := rfl; omega)
    have lsp : ((" " : String) : Str).length = 1 := by decide
    have lco : ((": " : String) : Str).length = 2 := by decide
    have le0 : Str.empty.length = 0 := rfl
    have z2 : sz (Str.empty ++ iS p ++ ((" " : String) : Str)).length = true := sz_ok (by rw [Str.length_append, Str.length_append]; omega)
    have z3 : sz (Str.empty ++ iS p ++ ((" " : String) : Str) ++ iS L).length = true := sz_ok (by rw [Str.length_append, Str.length_append, Str.length_append]; omega)
    have z4 : sz (Str.empty ++ iS p ++ ((" " : String) : Str) ++ iS L ++ ((": " : String) : Str)).length = true := sz_ok (by rw [Str.length_append, Str.length_append, Str.length_append, Str.length_append]; omega)
    have ej : (cFStr [(cFmt (cFld (["Table"] : List Str) ("prime" : Str) (cVar 0))), (cTxt (cCst (.str " "))), (cFmt (cFld (["Table"] : List Str) ("size" : Str) (cVar 0))), (cTxt (cCst (.str ": ")))]) [.own O3, .val (.int p), S2, s3, .own (.lst ((mdR p R).map fun r => D.str (rowT r))), .emp] =
        .ok (.val (.str (Str.empty ++ iS p ++ ((" " : String) : Str) ++ iS L ++ ((": " : String) : Str)))) [.own O3, .val (.int p), S2, s3, .own (.lst ((mdR p R).map fun r => D.str (rowT r))), .emp] := by
      simp [cFStr, cJs, cFmt, cTxt, f1, f2, fp, fl, strD, z1, z2, z3, z4]
    generalize hT : (Str.empty ++ iS p ++ ((" " : String) : Str) ++ iS L ++ ((": " : String) : Str)) = T at ej
    have hTl : T.length ≤ 10 := by rw [← hT, Str.length_append, Str.length_append, Str.length_append, Str.length_append]; omega
    have hadd : oAdd (.str T) (.str (Txt.join " " ((mdR p R).map rowT))) = some (.val (.str (T ++ Txt.join " " ((mdR p R).map rowT)))) := by
      have : sz (T.length + (Txt.join " " ((mdR p R).map rowT)).length) = true := sz_ok (by omega)
      show (if sz _ = true then _ else _) = _
      rw [if_pos this]; rfl
    refine ⟨T ++ Txt.join " " ((mdR p R).map rowT), ?_⟩
    have c1 : ¬ (10 : Int) < R.length := by omega
    have c2 : ¬ (10 : Int) < L := by omega
    have c3 : ¬ (R.length : Int) = 0 := by omega
    have c4 : ¬ (L : Int) = 0 := by omega
    have hL0 : ¬ L = 0 := by omega
    have fin : B_Table (callF tb n) [.own (.obj "Table" []), .val (.int p), S2, .emp, .emp, .emp] = .ok .nx [.own (tO p L (mdR p R) (T ++ Txt.join " " ((mdR p R).map rowT))), .val (.int p), S2, s3, .own (.lst ((mdR p R).map fun r => D.str (rowT r))), .emp] := by
      unfold B_Table
      rcases hS with rfl | rfl <;> simp [hpi, hne, hL0, c1, c2, c3, c4, hix, hr0l, e3, ev_fldS, p_prime, hpz, hpr, er, ed, ej, j1, hadd, pt]
    rw [fin]
    rfl
  rcases hq with rfl | rfl
  · rw [call_init tb_Table rfl]
    exact key _ (.inl rfl)
  · rw [call_init tb_Table rfl]
    exact key _ (.inr rfl)
end W
end
section
set_option maxRecDepth 100000
/-! E18: k18, reduced, weight_counts, _law_counts. -/
namespace W
open PySem L2 PyProof.Rows CI
def wt (w : List Int) : Nat := (w.filter fun e => !decide (e = 0)).length
def cnt1 (c : List Int) (w : List Int) : List Int := c.set (wt w) (c.getD (wt w) 0 + 1)
def cntF (L : Nat) (ws : List (List Int)) : List Int := ws.foldl cnt1 (LA.zs (L + 1))
theorem cnt1_len (c w : List Int) : (cnt1 c w).length = c.length := by simp [cnt1]
theorem wt_le (w : List Int) : wt w ≤ w.length := List.length_filter_le _ _
theorem ev_wt (s : Nat) {ρ : En} {i j : Nat} {w : List Int} (hs : ρ[j]? = some (.val (tD w)) ∨ ρ[j]? = some (.bor (tD w))) (hi : ρ[i]? = some .emp) (hij : i ≠ j) (hw : w.length < 1000) :
    cLc (ciVar j) (.nm i) (cTst (cBin oNe (cVar i) (cCst (.int 0)))) (cFrz i) [i] ρ = .ok (.own (.lst ((w.filter fun e => !decide (e = 0)).map D.int))) ρ := by
  have hz : sizeLine = 16777216 := sizeLine_eq
  have hil : i < ρ.length := by
    rcases Nat.lt_or_ge i ρ.length with w | w
    · exact w
    · rw [List.getElem?_eq_none w] at hi; cases hi
  refine ev_lcF (i := i) (s := .emp) D.int (fun e => !decide (e = 0)) D.int ?_ hi ?_ (by omega) (fun x _ => ?_) fun x _ _ => ?_
  · rcases hs with h | h
    · rw [ev_ciV1 h]; simp
    · rw [ev_ciV3 h]; simp
  · simp [okOwn, hi]
  · have : (ρ.set i (.val (.int x)))[i]? = some (.val (.int x)) := List.getElem?_set_self hil
    simp [ev_var1 this]
  · have : (ρ.set i (.val (.int x)))[i]? = some (.val (.int x)) := List.getElem?_set_self hil
    simp [ev_frz1 this]
theorem wc_loop {L : Nat} (hL : L < 1000) {p : Nat} {rows : List (List Int)} {txt : Str} : ∀ (ws : List (List Int)) (c : List Int) (s2 : Sl), (∀ w ∈ ws, w.length = L) → c.length = L + 1 →
    ∃ s2', forL (tNm 2) (cAugIx augAdd 1 (cBlt (uD gLen) (cCons (cA (cLock 2 (cLc (ciVar 2) (.nm 3) (cTst (cBin oNe (cVar 3) (cCst (.int 0)))) (cFrz 3) [3]))) cNil)) (cCst (.int 1))) (ws.map tD) [.val (tO p L rows txt), .own (lD c), s2, .emp] =
      .ok .nx [.val (tO p L rows txt), .own (lD (ws.foldl cnt1 c)), s2', .emp]
  | [], c, s2, _, _ => ⟨s2, rfl⟩
  | w :: ws, c, s2, hw, hc => by
    have hwl := hw w List.mem_cons_self
    obtain ⟨s2', e⟩ := wc_loop hL (p := p) (rows := rows) (txt := txt) ws (cnt1 c w) (.val (tD w)) (fun x hx => hw x (List.mem_cons_of_mem _ hx)) (by rw [cnt1_len, hc])
    refine ⟨s2', ?_⟩
    have hwt := wt_le w
    have hlc := ev_wt 0 (ρ := [.val (tO p L rows txt), .own (lD c), .val (tD w), .emp]) (i := 3) (j := 2) (.inl rfl) rfl (by decide) (by rw [hwl]; exact hL)
    have hlk : ∀ (m : Mn Rv), cLock 2 m [.val (tO p L rows txt), .own (lD c), .val (tD w), .emp] = m [.val (tO p L rows txt), .own (lD c), .val (tD w), .emp] := fun _ => rfl
    obtain ⟨x, hx⟩ : ∃ x, c[wt w]? = some x := ⟨_, List.getElem?_eq_getElem (by omega)⟩
    have hg : getD (.int (wt w : Int)) (.lst (zD c)) = some (.int x) := by
      show (if (0 : Int) ≤ (wt w : Int) then atI (zD c) (wt w : Int) else none) = _
      rw [if_pos (by omega), CI.atI_nat, List.getElem?_map, hx]
      rfl
    have hst : setD (.int (wt w : Int)) (.int (x + 1)) (.lst (zD c)) = some (.lst ((zD c).set (wt w) (.int (x + 1)))) := ev_setD (by simp; omega)
    have hcn : lD (cnt1 c w) = .lst ((zD c).set (wt w) (.int (x + 1))) := by
      unfold cnt1
      rw [List.getD_eq_getElem?_getD, hx]
      simp [zD, List.map_set]
    have hln : ((List.filter (fun e => !decide (e = 0)) w).length : Int) = (wt w : Int) := rfl
    rw [List.map_cons, forL_cnx (ρ1 := [.val (tO p L rows txt), .own (lD c), .val (tD w), .emp]) (ρ2 := [.val (tO p L rows txt), .own (lD (cnt1 c w)), .val (tD w), .emp]) rfl (.inl ?_), e]
    · rfl
    · rw [hcn]
      simp [cAugIx, hlk, hlc, hln, cGet, hg, augAdd, hst]
theorem lc_loop {L : Nat} (hL : L < 1000) (S0 S1 : Sl) : ∀ (ws : List (List Int)) (c : List Int) (s3 s4 : Sl), (∀ w ∈ ws, w.length = L) → c.length = L + 1 →
    ∃ s3' s4', forL (tNm 3) (cSeq (cSet 4 (cBlt (uD gLen) (cCons (cA (cLock 3 (cLc (ciVar 3) (.nm 5) (cTst (cBin oNe (cVar 5) (cCst (.int 0)))) (cFrz 5) [5]))) cNil)))
    (cSetT (tSub 2 (cVar 4)) (cV (cBin oAdd (cBin ixD (cVar 2) (cVar 4)) (cCst (.int 1)))))) (ws.map tD) [S0, S1, .own (lD c), s3, s4, .emp] =
      .ok .nx [S0, S1, .own (lD (ws.foldl cnt1 c)), s3', s4', .emp]
  | [], c, s3, s4, _, _ => ⟨s3, s4, rfl⟩
  | w :: ws, c, s3, s4, hw, hc => by
    have hwl := hw w List.mem_cons_self
    obtain ⟨s3', s4', e⟩ := lc_loop hL S0 S1 ws (cnt1 c w) (.val (tD w)) (.val (.int (wt w))) (fun x hx => hw x (List.mem_cons_of_mem _ hx)) (by rw [cnt1_len, hc])
    refine ⟨s3', s4', ?_⟩
    have hwt := wt_le w
    have hlc := ev_wt 0 (ρ := [S0, S1, .own (lD c), .val (tD w), s4, .emp]) (i := 5) (j := 3) (.inl rfl) rfl (by decide) (by rw [hwl]; exact hL)
    have hlk : ∀ (m : Mn Rv), cLock 3 m [S0, S1, .own (lD c), .val (tD w), s4, .emp] = m [S0, S1, .own (lD c), .val (tD w), s4, .emp] := fun _ => rfl
    obtain ⟨x, hx⟩ : ∃ x, c[wt w]? = some x := ⟨_, List.getElem?_eq_getElem (by omega)⟩
    have hst : setD (.int (wt w : Int)) (.int (x + 1)) (.lst (zD c)) = some (.lst ((zD c).set (wt w) (.int (x + 1)))) := ev_setD (by simp; omega)
    have hcn : lD (cnt1 c w) = .lst ((zD c).set (wt w) (.int (x + 1))) := by
      unfold cnt1
      rw [List.getD_eq_getElem?_getD, hx]
      simp [zD, List.map_set]
    have hln : ((List.filter (fun e => !decide (e = 0)) w).length : Int) = (wt w : Int) := rfl
    rw [List.map_cons, forL_cnx (ρ1 := [S0, S1, .own (lD c), .val (tD w), s4, .emp]) (ρ2 := [S0, S1, .own (lD (cnt1 c w)), .val (tD w), .val (.int (wt w)), .emp]) rfl (.inl ?_), e]
    · rfl
    · rw [hcn]
      simp [hlk, hlc, hln, hst, hx]
theorem wdsF_len {p : Nat} (hp : P4 p) {L : Nat} {rows : List (List Int)} (hR : LA.Oks p L rows) : ∀ w ∈ wdsF p L rows, w.length = L := fun w hw => by
  unfold wdsF sortT at hw
  have hw := (List.mergeSort_perm _ _).mem_iff.mp hw
  exact prog_lenL _ _ (fun w hw => by
      obtain rfl : w = LA.zs L := by simpa using hw
      simp [LA.zs]) (fun r h => (red_ok' hp hR r h).len) w hw
theorem ev_weights (n : Nat) {p : Nat} (hp : P4 p) {L : Nat} {rows : List (List Int)} (hR : LA.Oks p L rows) (h1 : 1 ≤ L) (hL : L < 900) (hl : rows.length < 1000) {txt : Str} :
    callF tb (n + 4) "weight_counts" [.val (tO p L rows txt)] = if 2500 < p ^ (LA.red p (iv p) L rows).length then .exc ("TooLarge", []) else .ok (.val (tD (cntF L (wdsF p L rows)))) := by
  have hs : sizeLine = 16777216 := sizeLine_eq
  have hw := ev_words n hp hR h1 (by omega) hl (txt := txt)
  have hz1 : sz 1 = true := sz_ok (by omega)
  have hzs : oMul (.lst [.int 0]) (.int ((L : Int) + 1)) = some (.own (lD (LA.zs (L + 1)))) := zs_lD' (L + 1) (by omega)
  rw [call_fn tb_weight_counts rfl]
  split at hw
  · rename_i hb
    rw [if_pos hb]
    simp [FI_weight_counts, B_weight_counts, f_size, hzs, hz1, hw]
  · rename_i hb
    rw [if_neg hb]
    obtain ⟨s2, e⟩ := wc_loop (L := L) (by omega) (p := p) (rows := rows) (txt := txt) (wdsF p L rows) (LA.zs (L + 1)) .emp (wdsF_len hp hR) (by simp [LA.zs])
    simp [FI_weight_counts, B_weight_counts, f_size, hzs, hz1, hw, e, cntF]
theorem ev_lcounts (n : Nat) {L : Nat} (hL : L < 900) {ws : List (List Int)} (hw : ∀ w ∈ ws, w.length = L) : callF tb (n + 1) "_law_counts" [.val (.tup (ws.map tD)), .val (.int L)] = .ok (.val (tD (cntF L ws))) := by
  have hs : sizeLine = 16777216 := sizeLine_eq
  have hz1 : sz 1 = true := sz_ok (by omega)
  have hzs : oMul (.lst [.int 0]) (.int ((L : Int) + 1)) = some (.own (lD (LA.zs (L + 1)))) := zs_lD' (L + 1) (by omega)
  rw [call_fn tb__law_counts rfl]
  obtain ⟨s3, s4, e⟩ := lc_loop (L := L) (by omega) (.val (.tup (ws.map tD))) (.val (.int L)) ws (LA.zs (L + 1)) .emp .emp hw (by simp [LA.zs])
  have hlk : ∀ (m : Mn Fl) (a b c d e : Sl), cLock 0 m [.val (.tup (ws.map tD)), a, b, c, d, e] = m [.val (.tup (ws.map tD)), a, b, c, d, e] := fun _ _ _ _ _ _ => rfl
  simp [FI__law_counts, B__law_counts, hzs, hz1, hlk, e, cntF]
theorem eqNil_rows (Q : List (List Int)) : oEq (.lst (Q.map lD)) (.lst []) = some (.val (.bl Q.isEmpty)) := by
  have h : pyAll (Q.map lD) = some (Q.map fun v => PyData.list (v.map PyData.int)) := by
    induction Q with
    | nil => rfl
    | cons a Q ih =>
      show (match pyOf (lD a), pyAll (Q.map lD) with
        | some x, some xs => some (x :: xs)
        | _, _ => none) = _
      rw [ih, show pyOf (lD a) = some (.list (a.map PyData.int)) by
        show (pyAll (a.map D.int)).map PyData.list = _
        rw [py_ints]; rfl]
      rfl
  have lay : PyData.canLayAll0 (Q.map fun v => PyData.list (v.map PyData.int)) = true := by
    clear h
    induction Q with
    | nil => simp [PyData.canLayAll0]
    | cons a Q ih => simp only [List.map_cons, PyData.canLayAll0, PyData.canLay0, lay_ints, Bool.true_and]; exact ih
  have dep : PyData.depthAll (Q.map fun v => PyData.list (v.map PyData.int)) ≤ 3 := by
    clear h lay
    induction Q with
    | nil => simp [PyData.depthAll]
    | cons a Q ih =>
      have := dep_ints a
      simp only [List.map_cons, PyData.depthAll, PyData.depth]
      omega
  have h2 : SeqAt.shaped (.list (Q.map fun v => PyData.list (v.map PyData.int))) = true := by
    simp [SeqAt.shaped, PyData.canLay0, PyData.depth, lay]
    omega
  have := v_eqNil h h2
  simpa using this
/-- the rows of the reduced table -/
noncomputable def redT (p L : Nat) (rows : List (List Int)) : List (List Int) := if (LA.red p (iv p) L rows).isEmpty then [LA.zs L] else LA.red p (iv p) L rows
theorem ev_reduced (n : Nat) {p : Nat} (hp : P4 p) {L : Nat} {rows : List (List Int)} (hR : LA.Oks p L rows) (h1 : 1 ≤ L) (hL : L ≤ 10) (hl : rows.length ≤ 10) {txt : Str} :
    ∃ txt', callF tb (n + 3) "reduced" [.val (tO p L rows txt)] = .ok (.val (tO p L (redT p L rows) txt')) := by
  have hs : sizeLine = 16777216 := sizeLine_eq
  have hz1 : sz 1 = true := sz_ok (by omega)
  have hld := ev_lead n hp hR (by omega) (by omega) (txt := txt)
  have hrl := LA.red_len hp.inv (iv_ok hp) hR
  have hrok := red_ok' hp hR
  generalize hQ : LA.red p (iv p) L rows = Q at hld hrl hrok
  have hne := eqNil_rows Q
  have hzs := zs_lD' L (by omega)
  have hzo : LA.Oks p L [LA.zs L] := fun r hr => by
    obtain rfl : r = LA.zs L := by simpa using hr
    exact LA.zs_ok hp.pos
  have hT : redT p L rows = if Q.isEmpty then [LA.zs L] else Q := by unfold redT; rw [hQ]
  rw [hT]
  cases hq : Q.isEmpty with
  | true =>
    obtain ⟨txt', e⟩ := ev_table n hp h1 hL (R := [LA.zs L]) (fun r hr => (hzo r hr).len) (by simp) (by simp) (.val (.lst [lD (LA.zs L)])) (.inl rfl)
    rw [mdR_ok hzo] at e
    rw [hq] at hne
    refine ⟨txt', ?_⟩
    rw [call_fn tb_reduced rfl]
    have ht : callF tb (n + 2) "_table_or_zeros" [.val (tO p L rows txt), .val (.lst (Q.map lD))] = .ok (.val (tO p L [LA.zs L] txt')) := by
      rw [call_fn tb__table_or_zeros rfl]
      simp [FI__table_or_zeros, B__table_or_zeros, hne, f_prime, f_size, hz1, hzs, e]
    simp [FI_reduced, B_reduced, hld, ht]
  | false =>
    have hqn : Q ≠ [] := fun e => by rw [e] at hq; cases hq
    obtain ⟨txt', e⟩ := ev_table n hp h1 hL (R := Q) (fun r hr => (hrok r hr).len) hqn (by omega) (.val (.lst (Q.map lD))) (.inl rfl)
    rw [mdR_ok hrok] at e
    rw [hq] at hne
    refine ⟨txt', ?_⟩
    rw [call_fn tb_reduced rfl]
    have ht : callF tb (n + 2) "_table_or_zeros" [.val (tO p L rows txt), .val (.lst (Q.map lD))] = .ok (.val (tO p L Q txt')) := by
      rw [call_fn tb__table_or_zeros rfl]
      simp [FI__table_or_zeros, B__table_or_zeros, hne, f_prime, e]
    simp [FI_reduced, B_reduced, hld, ht]
end W
end
section
set_option maxRecDepth 100000
/-! E19: k18, _law_alike, _law_same, _law_fate, _law_refused. -/
namespace W
open PySem L2 PyProof.Rows CI
/-- data that _law_alike compares: texts, ints, tuples of these to a depth -/
inductive Alk : Nat → D → Prop where
  | int (k : Nat) (i : Int) : Alk k (.int i)
  | str (k : Nat) (x : Str) (h : PyData.strOk x = true) : Alk k (.str x)
  | tup (k : Nat) (ds : List D) (hl : ds.length < 2 ^ 62) (h : ∀ x ∈ ds, Alk k x) : Alk (k + 1) (.tup ds)
theorem v_eqS (x : Str) (h : PyData.strOk x = true) : oEq (.str x) (.str x) = some (.val (.bl true)) := by
  have h1 : SeqAt.shaped (.str x) = true := by simp [SeqAt.shaped, PyData.canLay0, PyData.depth, h]
  have h3 : PyData.eqv (.str x) (.str x) = true := by simp [PyData.eqv]
  simp only [oEq, eqD, pyOf, h1, h3, Bool.and_self, if_true, Option.bind_some, v_vB]
theorem isi_tt (ds : List D) : gIsi "tuple" (.tup ds) = some (.val (.bl true)) := rfl
theorem isi_ti (i : Int) : gIsi "tuple" (.int i) = some (.val (.bl false)) := rfl
theorem isi_ts (i : Str) : gIsi "tuple" (.str i) = some (.val (.bl false)) := rfl
theorem isi_si (i : Int) : gIsi "str" (.int i) = some (.val (.bl false)) := rfl
theorem isi_ss (i : Str) : gIsi "str" (.str i) = some (.val (.bl true)) := rfl
theorem isi_bi (i : Int) : gIsi "bool" (.int i) = some (.val (.bl false)) := rfl
theorem isi_ii (i : Int) : gIsi "int" (.int i) = some (.val (.bl true)) := rfl
theorem ev_alike : ∀ (k n : Nat) {d : D}, Alk k d → callF tb (n + k + 1) "_law_alike" [.val d, .val d] = .ok (.val (.bl true))
  | k, n, _, .int _ i => by
    rw [call_fn tb__law_alike rfl]
    simp [FI__law_alike, B__law_alike, isi_ti, isi_si, isi_bi, isi_ii]
  | k, n, _, .str _ x h => by
    have := v_eqS x h
    rw [call_fn tb__law_alike rfl]
    simp [FI__law_alike, B__law_alike, isi_ts, isi_ss, this]
  | k + 1, n, _, .tup _ ds hl h => by
      have hrg : rg1 (.int (ds.length : Int)) = some (rgD 0 ds.length) := rg1_nat hl
      obtain ⟨ρ', e, s, I⟩ := forL_inv (t := tNm 2) (body := (cIfS (cNot (cTr (cCall (callF tb (n + k + 1)) ("_law_alike" : Str) (cCons (cA (cBin ixD (cVar 0) (cVar 2))) (cCons (cA (cBin ixD (cVar 1) (cVar 2))) cNil)))))
    (cRet (cCst (.bl false)))
    cPass)) (ds := rgD 0 ds.length) (fun _ ρ => ∃ s, ρ = [.val (.tup ds), .val (.tup ds), s]) (i := 0) (ρ := [.val (.tup ds), .val (.tup ds), .emp]) ⟨_, rfl⟩ fun i d ρ _ hd ⟨s, e⟩ => by
        subst e
        obtain ⟨h1, rfl⟩ := rg_at hd
        rw [Nat.sub_zero] at h1 ⊢
        obtain ⟨x, hx⟩ : ∃ x, ds[i]? = some x := ⟨_, List.getElem?_eq_getElem h1⟩
        have hc := ev_alike k n (h x (List.mem_of_getElem? hx))
        exact ⟨_, [.val (.tup ds), .val (.tup ds), .val (.int i)], rfl, by simp [hx, hc], _, rfl⟩
      rw [call_fn tb__law_alike rfl, show n + (k + 1) = n + k + 1 by omega]
      simp [FI__law_alike, B__law_alike, isi_tt, hrg, e]
theorem ev_same (n : Nat) {ws : List (List Int)} (hl : ws.length < 2 ^ 62) : callF tb (n + 1) "_law_same" [.val (.tup (ws.map tD)), .val (.tup (ws.map tD))] = .ok (.val (.bl true)) := by
  have hrg : rg1 (.int (ws.length : Int)) = some (rgD 0 ws.length) := rg1_nat hl
  obtain ⟨ρ', e, I⟩ := forL_inv (t := tNm 2) (body := (cSeq (cSet 3 (cBin ixD (cVar 0) (cVar 2)))
    (cSeq (cIfS (cOr (cNot (cTr (cUn (gIsi "tuple") (cVar 3)))) (cTst (cBin oNe (cVar 3) (cBin ixD (cVar 1) (cVar 2)))))
    (cRet (cCst (.bl false)))
    cPass)
    (cLock 3 (cFor (ciVar 3) (tNm 4)
    (cIfS (cOr (cNot (cTr (cUn (gIsi "int") (cVar 4)))) (cTr (cUn (gIsi "bool") (cVar 4))))
    (cRet (cCst (.bl false)))
    cPass)))))) (ds := rgD 0 ws.length) (fun _ ρ => ∃ s2 s3 s4, ρ = [.val (.tup (ws.map tD)), .val (.tup (ws.map tD)), s2, s3, s4]) (i := 0) (ρ := [.val (.tup (ws.map tD)), .val (.tup (ws.map tD)), .emp, .emp, .emp]) ⟨_, _, _, rfl⟩ fun i d ρ _ hd ⟨s2, s3, s4, e⟩ => by
        subst e
        obtain ⟨h1, rfl⟩ := rg_at hd
        rw [Nat.sub_zero] at h1 ⊢
        obtain ⟨w, hw⟩ : ∃ x, ws[i]? = some x := ⟨_, List.getElem?_eq_getElem h1⟩
        have hne := v_neT w w
        obtain ⟨ρ', e, s, I⟩ := forL_inv (t := tNm 4) (body := (cIfS (cOr (cNot (cTr (cUn (gIsi "int") (cVar 4)))) (cTr (cUn (gIsi "bool") (cVar 4))))
    (cRet (cCst (.bl false)))
    cPass)) (ds := zD w) (fun _ ρ => ∃ s4, ρ = [.val (.tup (ws.map tD)), .val (.tup (ws.map tD)), .val (.int i), .val (tD w), s4]) (i := 0) (ρ := [.val (.tup (ws.map tD)), .val (.tup (ws.map tD)), .val (.int i), .val (tD w), s4]) ⟨_, rfl⟩ fun j d ρ _ hd ⟨s, e⟩ => by
          subst e
          rw [Nat.sub_zero, List.getElem?_map] at hd
          cases hq : w[j]? with
          | none => rw [hq] at hd; cases hd
          | some x =>
            rw [hq] at hd
            obtain rfl : D.int x = d := by simpa using hd
            exact ⟨_, [.val (.tup (ws.map tD)), .val (.tup (ws.map tD)), .val (.int i), .val (tD w), .val (.int x)], rfl, by simp [isi_ii, isi_bi], _, rfl⟩
        subst I
        have hlk : ∀ (m : Mn Fl), cLock 3 m [.val (.tup (ws.map tD)), .val (.tup (ws.map tD)), .val (.int i), .val (tD w), s4] = m [.val (.tup (ws.map tD)), .val (.tup (ws.map tD)), .val (.int i), .val (tD w), s4] := fun _ => rfl
        exact ⟨_, [.val (.tup (ws.map tD)), .val (.tup (ws.map tD)), .val (.int i), .val (tD w), s], rfl, by simp [hw, isi_tt, hne, e], _, _, _, rfl⟩
  rw [call_fn tb__law_same rfl]
  simp [FI__law_same, B__law_same, isi_tt, hrg, e]
theorem su1 : su_StrikejoinError "TooLarge" = some true := by kernel_rfl
theorem su2 : su_TooLarge "TooLarge" = some true := by kernel_rfl
theorem su3 : su_ValueError "TooLarge" = some true := by kernel_rfl
theorem su4 : su_BadRows "TooLarge" = some false := by kernel_rfl
def lrgD : D := .tup [.str "large"]
/-- the suite of _law_fate -/
theorem fate_suite (a b : Sl) : sufEnd 2 ((cSeq (cIfS (cAnd (cTr (cIsE 2 su_TooLarge)) (cAnd (cTr (cIsE 2 su_ValueError)) (cNot (cTr (cIsE 2 su_BadRows)))))
    (cRet (cTup (cCons (cV (cCst (.str "large"))) cNil)))
    cPass)
    (cRet (cTup (cCons (cV (cCst (.str "other"))) cNil)))) [a, b, .exn ("TooLarge", [])]) = .ok (.ret (.val lrgD)) ((clean [a, b, .exn ("TooLarge", [])]).set 2 .emp) := by
  have hz1 : sz 1 = true := sz_ok (by have := sizeLine_eq; omega)
  have h1 : ∀ su : Str → Option Bool, ∀ k, su "TooLarge" = some k → cIsE 2 su [a, b, .exn ("TooLarge", [])] = .ok (.val (.bl k)) [a, b, .exn ("TooLarge", [])] := fun su k h => by
    simp [cIsE, h]
  have e1 := h1 _ _ su2
  have e2 := h1 _ _ su3
  have e3 := h1 _ _ su4
  simp [e1, e2, e3, hz1, sufEnd, lrgD]
section
variable {p : Nat} (hp : P4 p) {L : Nat} {rows : List (List Int)} (hR : LA.Oks p L rows) (h1 : 1 ≤ L) (hL : L < 900) (hl : rows.length < 1000) {txt : Str}
include hp hR h1 hL hl
theorem ev_fate (n : Nat) (k : Bool) (hb : 2500 < p ^ (LA.red p (iv p) L rows).length) : callF tb (n + 5) "_law_fate" [.val (tO p L rows txt), .val (.bl k)] = .ok (.val lrgD) := by
  have e1 := ev_weights n hp hR h1 hL hl (txt := txt)
  have e2 := ev_words (n + 1) hp hR h1 (by omega) hl (txt := txt)
  rw [if_pos hb] at e1 e2
  have hs := fate_suite (.val (tO p L rows txt)) (.val (.bl k))
  have hb : (cIfS (cTr (cVar 1))
    (cExpr (cCall (callF tb (n + 4)) ("weight_counts" : Str) (cCons (cA (cVar 0)) cNil)))
    (cExpr (cCall (callF tb (n + 4)) ("words" : Str) (cCons (cA (cVar 0)) cNil)))) [.val (tO p L rows txt), .val (.bl k), .emp] = .exc ("TooLarge", []) [.val (tO p L rows txt), .val (.bl k), .emp] := by
    cases k <;> simp [e1, e2]
  have ht := ev_tryX (i := 2) hb su1 (suite := (cSeq (cIfS (cAnd (cTr (cIsE 2 su_TooLarge)) (cAnd (cTr (cIsE 2 su_ValueError)) (cNot (cTr (cIsE 2 su_BadRows)))))
    (cRet (cTup (cCons (cV (cCst (.str "large"))) cNil)))
    cPass)
    (cRet (cTup (cCons (cV (cCst (.str "other"))) cNil)))))
  have ht := ht.trans hs
  rw [call_fn tb__law_fate rfl]
  simp only [FI__law_fate, B__law_fate, ev_seq]
  have hst : startE 3 [.val (tO p L rows txt), .val (.bl k)] = [.val (tO p L rows txt), .val (.bl k), .emp] := rfl
  rw [hst, ht, sk2]
  rfl
theorem ev_refused (n : Nat) (hb : 2500 < p ^ (LA.red p (iv p) L rows).length) : callF tb (n + 6) "_law_refused" [.val (tO p L rows txt)] = .ok (.val (.bl true)) := by
  have hz1 : sz 1 = true := sz_ok (by have := sizeLine_eq; omega)
  have f1 := ev_fate hp hR h1 hL hl (txt := txt) n true hb
  have f2 := ev_fate hp hR h1 hL hl (txt := txt) n false hb
  have a := ev_alike 1 (n + 3) (d := lrgD) (.tup _ _ (by simp) fun x hx => by
    obtain rfl : x = .str "large" := by simpa using hx
    exact .str _ _ (by decide +kernel))
  have a : callF tb (n + 5) "_law_alike" [.val (.tup [.str "large"]), .val (.tup [.str "large"])] = .ok (.val (.bl true)) := a
  rw [call_fn tb__law_refused rfl]
  unfold lrgD at f1 f2
  simp [FI__law_refused, B__law_refused, f1, f2, hz1, a]
end
end W
end
section
set_option maxRecDepth 100000
/-! E20: k18, _law_holds. -/
namespace W
open PySem L2 PyProof.Rows CI
theorem sortT_perm {F G : List (List Int)} (h : F.Perm G) : sortT F = sortT G := by
  refine sortT_uniq ((List.mergeSort_perm F leL).trans h) ?_
  refine (List.pairwise_mergeSort leL_trans leL_total F).imp fun {x y} h => ?_
  unfold leL at h
  simpa using h
section
variable {p : Nat} (hp : P4 p) {L : Nat} {rows : List (List Int)} (hR : LA.Oks p L rows)
include hp hR
theorem redT_ok : LA.Oks p L (redT p L rows) := by
  unfold redT
  split
  · intro r hr
    obtain rfl : r = LA.zs L := by simpa using hr
    exact LA.zs_ok hp.pos
  · exact red_ok' hp hR
theorem redT_lst : LA.Lst p L rows (LA.progAll p L (LA.red p (iv p) L (redT p L rows))) := by
  have h1 := (LA.red_lst hp.inv (iv_ok hp) (redT_ok hp hR)).1
  have h2 := (LA.red_lst hp.inv (iv_ok hp) hR).1
  unfold redT at h1 ⊢
  split at h1
  · rename_i hq
    rw [if_pos hq]
    refine h1.congr fun v => ?_
    have hz : LA.Oks p L [LA.zs L] := fun r hr => by
      obtain rfl : r = LA.zs L := by simpa using hr
      exact LA.zs_ok hp.pos
    have e := LA.sp_snoc_in (p := p) (L := L) (R := []) (r := LA.zs L) (v := v) hp.pos (fun r hr => by cases hr) .zero
    rw [List.nil_append] at e
    rw [e]
    have hq : LA.red p (iv p) L rows = [] := by simpa using hq
    have h3 := h2
    rw [hq] at h3
    have h4 : LA.Lst p L [] (LA.progAll p L []) := LA.lst_nil
    exact (h4.mem v).symm.trans (h3.mem v)
  · rename_i hq
    rw [if_neg hq]
    exact h1.congr fun v => (LA.gauss_ok hp.inv (iv_ok hp) hR).2.2 v
theorem wdsF_red : wdsF p L (redT p L rows) = wdsF p L rows := sortT_perm ((redT_lst hp hR).perm (LA.red_lst hp.inv (iv_ok hp) hR).1)
theorem pow_red : p ^ (LA.red p (iv p) L (redT p L rows)).length = p ^ (LA.red p (iv p) L rows).length := by
  rw [← (LA.red_lst hp.inv (iv_ok hp) (redT_ok hp hR)).2, ← (LA.red_lst hp.inv (iv_ok hp) hR).2]
  exact ((redT_lst hp hR).perm (LA.red_lst hp.inv (iv_ok hp) hR).1).length_eq
end
theorem eqNilT (ws : List (List Int)) : oEq (.tup (ws.map tD)) (.tup []) = some (.val (.bl ws.isEmpty)) := by
  have e1 : pyOf (.tup (ws.map tD)) = some (.tuple (ws.map pI)) := by
    show (pyAll (ws.map tD)).map PyData.tuple = _
    rw [py_tups]; rfl
  have h2 : SeqAt.shaped (.tuple (ws.map pI)) = true := by
    have := dep_tups ws
    simp [SeqAt.shaped, PyData.canLay0, PyData.depth, lay_tups]
    omega
  have e2 : pyOf (.tup []) = some (.tuple []) := rfl
  have e3 : SeqAt.shaped (.tuple []) = true := by decide
  unfold oEq eqD
  rw [e1, e2]
  simp only [h2, e3, Bool.and_self, if_true, Option.bind_some, v_vB]
  cases ws with
  | nil => simp [PyData.eqv, PyData.eqvAll]
  | cons a ws => simp [PyData.eqv, PyData.eqvAll]
theorem rows_t {R : List (List Int)} {S1 a b c d e : Sl} (hS : S1 = .val (.lst (R.map lD)) ∨ S1 = .bor (.lst (R.map lD))) (hl : R.length ≤ 10) (f : D → Option Rv) (g : List Int → D) (hf : ∀ r, f (lD r) = some (.val (g r)) ∨ f (lD r) = some (.own (g r))) :
    cLc (ciVar 1) (.nm 5) cYes (cBlt (uD f) (cCons (cA (cVar 5)) cNil)) [5] [a, S1, b, c, d, .emp] = .ok (.own (.lst (R.map g))) [a, S1, b, c, d, .emp] := by
  have hs : sizeLine = 16777216 := sizeLine_eq
  exact ev_lcN (i := 5) (s := .emp) (ρ1 := [a, S1, b, c, d, .emp]) lD g (by rcases hS with rfl | rfl <;> simp) rfl rfl (by omega) fun r hr => by
    rcases hf r with h | h <;> simp [h]
theorem ev_holds (n : Nat) {p : Nat} (hp : P4 p) {L : Nat} {rows : List (List Int)} (hR : LA.Oks p L rows) (h1 : 1 ≤ L) (hL : L ≤ 10) (hne : rows ≠ []) (hl : rows.length ≤ 10) (q : Rv) (hq : q = .val (.lst (rows.map lD)) ∨ q = .bor (.lst (rows.map lD))) :
    callF tb (n + 7) "_law_holds" [.val (.int p), q] = .ok (.val (.bl true)) := by
  have hs : sizeLine = 16777216 := sizeLine_eq
  obtain ⟨txt, et⟩ := ev_table (n + 5) hp h1 hL (fun r hr => (hR r hr).len) hne hl (.val (.lst (rows.map lD))) (.inl rfl)
  rw [mdR_ok hR] at et
  have hz0 : sz 0 = true := sz_0
  obtain ⟨r0, hr0⟩ : ∃ r0, rows[0]? = some r0 := by
    cases rows with
    | nil => exact absurd rfl hne
    | cons a b => exact ⟨a, rfl⟩
  have hr0l := (hR r0 (List.mem_of_getElem? hr0)).len
  have hix : ixD (.lst (rows.map lD)) (.int 0) = some (.val (lD r0)) := by
    have := v_ix1 (rows.map lD) 0
    rw [List.getElem?_map, hr0] at this
    simpa using this
  have key : ∀ S1 : Sl, (S1 = .val (.lst (rows.map lD)) ∨ S1 = .bor (.lst (rows.map lD))) → resOf (B__law_holds (callF tb (n + 6)) [.val (.int p), S1, .emp, .emp, .emp, .emp]) = .ok (.val (.bl true)) := fun S1 hS => by
    have ert : ∀ (a b c d : Sl), _ := fun a b c d => rows_t (R := rows) (S1 := S1) (a := a) (b := b) (c := c) (d := d) (e := .emp) hS hl gTuple tD (fun r => .inl rfl)
    have erl : ∀ (a b c d : Sl), _ := fun a b c d => rows_t (R := rows) (S1 := S1) (a := a) (b := b) (c := c) (d := d) (e := .emp) hS hl gList lD (fun r => .inr rfl)
    have hspv := ev_span (n + 4) h1 (by omega) hp hne (fun r hr => (hR r hr).len) (.val (.lst (rows.map lD))) (.inl rfl)
    have hspb := ev_span (n + 4) h1 (by omega) hp hne (fun r hr => (hR r hr).len) (.bor (.lst (rows.map lD))) (.inr rfl)
    rcases LA.same_words (M := 2500) (by omega) hp.inv (iv_ok hp) hR with ⟨g1, g2⟩ | ⟨F, g1, g2, g3, g4⟩
    · have hrf := ev_refused hp hR h1 (by omega) (by omega) (txt := txt) n g2
      rw [g1] at hspv hspb
      have e0 := eqNilT []
      have e0 : oEq (.tup []) (.tup []) = some (.val (.bl true)) := e0
      rcases hS with rfl | rfl <;> simp [B__law_holds, erl, et, hix, hr0l, hspv, hspb, e0, hz0, hrf]
    · have hF : F ≠ [] := fun e => by
        have := g3.length_eq
        rw [e, (LA.red_lst hp.inv (iv_ok hp) hR).2] at this
        have h0 : 0 < p ^ (LA.red p (iv p) L rows).length := Nat.pow_pos (by have := hp.pos; omega)
        simp at this
        omega
      have hsF : sortT F = wdsF p L rows := sortT_perm g3
      rw [g1] at hspv hspb
      simp only [hsF] at hspv hspb
      have hws := ev_words (n + 3) hp hR h1 (by omega) (by omega) (txt := txt)
      rw [if_neg (by omega)] at hws
      have hwc := ev_weights (n + 2) hp hR h1 (by omega) (by omega) (txt := txt)
      rw [if_neg (by omega)] at hwc
      have hlen : (wdsF p L rows).length ≤ 2500 := by
        rw [← hsF, sortT, List.length_mergeSort, g3.length_eq, (LA.red_lst hp.inv (iv_ok hp) hR).2]
        exact g2
      have hsame := ev_same (n + 5) (ws := wdsF p L rows) (by omega)
      have hlct := ev_lcounts (n + 5) (L := L) (by omega) (wdsF_len hp hR)
      have hcl : (cntF L (wdsF p L rows)).length = L + 1 := by
        unfold cntF
        have : ∀ (ws : List (List Int)) (c : List Int), (ws.foldl cnt1 c).length = c.length := fun ws => by
          induction ws with
          | nil => intro c; rfl
          | cons a ws ih => intro c; rw [List.foldl_cons, ih, cnt1_len]
        rw [this]; simp [LA.zs]
      have hal1 := ev_alike 1 (n + 4) (d := tD (cntF L (wdsF p L rows))) (.tup _ _ (by rw [List.length_map, hcl]; omega) fun x hx => by
        obtain ⟨i, _, rfl⟩ := List.mem_map.mp hx
        exact .int _ _)
      have hal2 := ev_alike 2 (n + 3) (d := .tup (rows.map tD)) (.tup _ _ (by rw [List.length_map]; omega) fun x hx => by
        obtain ⟨r, hr, rfl⟩ := List.mem_map.mp hx
        refine .tup _ _ ?_ fun x hx => ?_
        · rw [List.length_map, (hR r hr).len]; omega
        · obtain ⟨i, _, rfl⟩ := List.mem_map.mp hx
          exact .int _ _)
      have hal1 : callF tb (n + 6) "_law_alike" [.val (tD (cntF L (wdsF p L rows))), .val (tD (cntF L (wdsF p L rows)))] = _ := hal1
      have hal2 : callF tb (n + 6) "_law_alike" [.val (.tup (rows.map tD)), .val (.tup (rows.map tD))] = _ := hal2
      have hen : oEq (.tup ((wdsF p L rows).map tD)) (.tup []) = some (.val (.bl false)) := by
        rw [eqNilT, ← hsF]
        have : sortT F ≠ [] := fun e => hF (by
          have := congrArg List.length e
          rw [sortT, List.length_mergeSort] at this
          exact List.length_eq_zero_iff.mp this)
        simpa using this
      obtain ⟨txt', hrd⟩ := ev_reduced (n + 3) hp hR h1 hL hl (txt := txt)
      have hws2 := ev_words (n + 3) hp (redT_ok hp hR) h1 (by omega) (by
        unfold redT
        have := LA.red_len hp.inv (iv_ok hp) hR
        split
        · simp
        · omega) (txt := txt')
      rw [pow_red hp hR, if_neg (by omega), wdsF_red hp hR] at hws2
      have hfr := f_rows p L rows txt
      by_cases h7 : (700 : Int) < ((wdsF p L rows).length : Int)
      · have h7' : 700 < (wdsF p L rows).length := by omega
        rcases hS with rfl | rfl <;> simp [B__law_holds, erl, ert, et, hix, hr0l, hspv, hspb, hen, hz0, hws, hsame, hwc, hlct, hal1, hal2, hfr, h7, h7']
      · have h7' : ¬ 700 < (wdsF p L rows).length := by omega
        rcases hS with rfl | rfl <;> simp [B__law_holds, erl, ert, et, hix, hr0l, hspv, hspb, hen, hz0, hws, hsame, hwc, hlct, hal1, hal2, hfr, h7, h7', hrd, hws2]
  rcases hq with rfl | rfl
  · rw [call_fn tb__law_holds rfl]
    exact key _ (.inl rfl)
  · rw [call_fn tb__law_holds rfl]
    exact key _ (.inr rfl)
end W
end
section
set_option maxRecDepth 100000
/-! E21: k18, _law_list. -/
namespace W
open PySem L2 PyProof.Rows CI
def rowF (cs : List Int) (p L k : Nat) : List Int := if 6 < L then wideF (cs.getD k 0) k p L else drawnF (cs.getD k 0) k p L
theorem map_ok {p L : Nat} (hp : P4 p) (f : Nat → Int) : LA.Ok p L ((List.range L).map fun k => f k % p) := by
  have hpp := hp.pos
  refine ⟨by simp, fun i hi => ?_⟩
  rw [List.getD_eq_getElem?_getD, List.getElem?_map, List.getElem?_range hi]
  exact ⟨Int.emod_nonneg _ (by omega), Int.emod_lt_of_pos _ hpp⟩
theorem rowF_ok {p L : Nat} (hp : P4 p) (cs : List Int) (k : Nat) : LA.Ok p L (rowF cs p L k) := by
  unfold rowF
  split
  · exact map_ok hp _
  · exact map_ok hp _
noncomputable def llB (F : CI.Callee) : Mn Fl := (cIfS (cTst (cBin oGt (cVar 5) (cCst (.int 6))))
    (cApp 7 (cCall F ("_law_wide" : Str) (cCons (cA (cBin ixD (cVar 6) (cVar 8))) (cCons (cA (cVar 8)) (cCons (cA (cVar 3)) (cCons (cA (cVar 5)) cNil))))))
    (cApp 7 (cCall F ("_law_drawn" : Str) (cCons (cA (cBin ixD (cVar 6) (cVar 8))) (cCons (cA (cVar 8)) (cCons (cA (cVar 3)) (cCons (cA (cVar 5)) cNil)))))))
theorem ll_loop (n : Nat) {p : Nat} (hp : P4 p) {L : Nat} (hL : L ≤ 10) (cs : List Int) (S0 S1 S2 S4 : Sl) {count : Nat} (hc : count ≤ cs.length) (hc2 : count ≤ 10) (s8 : Sl) :
    ∃ s8', forL (tNm 8) (llB (callF tb (n + 2))) (rgD 0 count) [S0, S1, S2, .val (.int p), S4, .val (.int L), .own (lD cs), .own (.lst []), s8] =
      .ok .nx [S0, S1, S2, .val (.int p), S4, .val (.int L), .own (lD cs), .own (.lst (((List.range count).map (rowF cs p L)).map lD)), s8'] := by
  have hs : sizeLine = 16777216 := sizeLine_eq
  have main := forL_inv (t := tNm 8) (body := llB (callF tb (n + 2))) (ds := rgD 0 count)
    (fun i ρ => i ≤ count ∧ ∃ s8, ρ = [S0, S1, S2, .val (.int p), S4, .val (.int L), .own (lD cs), .own (.lst (((List.range i).map (rowF cs p L)).map lD)), s8])
    (i := 0) (ρ := [S0, S1, S2, .val (.int p), S4, .val (.int L), .own (lD cs), .own (.lst []), s8]) ⟨Nat.zero_le _, s8, rfl⟩ fun i d ρ _ hd ⟨hi, s8, e⟩ => by
      subst e
      obtain ⟨h1, rfl⟩ := rg_at hd
      rw [Nat.sub_zero] at h1 ⊢
      obtain ⟨x, hx⟩ : ∃ x, cs[i]? = some x := ⟨_, List.getElem?_eq_getElem (by omega)⟩
      have hxd : cs.getD i 0 = x := by rw [List.getD_eq_getElem?_getD, hx]; rfl
      have hw := ev_wide n x i hp L (by omega)
      have hd := ev_drawn n x i hp L (by omega)
      have hn : ((List.range (i + 1)).map (rowF cs p L)).map lD = ((List.range i).map (rowF cs p L)).map lD ++ [lD (rowF cs p L i)] := by
        rw [List.range_succ]; simp
      have hl2 : (((List.range i).map (rowF cs p L)).map lD).length < sizeLine := by simp; omega
      rw [hn]
      generalize ((List.range i).map (rowF cs p L)).map lD = X at hl2 ⊢
      have hap := fun d => ev_appD (d := d) hl2
      refine ⟨_, [S0, S1, S2, .val (.int p), S4, .val (.int L), .own (lD cs), .own (.lst (X ++ [lD (rowF cs p L i)])), .val (.int i)], rfl, ?_, by omega, _, rfl⟩
      unfold llB rowF
      by_cases h6 : 6 < L
      · have h6' : (6 : Int) < L := by omega
        simp [h6, h6', hx, hw, hap]
      · have h6' : ¬ (6 : Int) < L := by omega
        simp [h6, h6', hx, hd, hap]
  obtain ⟨ρ', e, _, s8', e2⟩ := main
  refine ⟨s8', ?_⟩
  rw [e, e2, Nat.zero_add, rgD_len]
theorem fmn (x : Int) (n : Int) (h : 0 < n) : x.fmod n = x % n := Int.fmod_eq_emod_of_nonneg x (by omega)
theorem fdn (x : Int) (n : Int) (h : 0 < n) : x.fdiv n = x / n := Int.fdiv_eq_ediv_of_nonneg x (by omega)
theorem ev_list (n : Nat) (ns : List Int) : ∃ (p L : Nat) (rows : List (List Int)), P4 p ∧ LA.Oks p L rows ∧ 1 ≤ L ∧ L ≤ 10 ∧ rows ≠ [] ∧ rows.length ≤ 10 ∧
    callF tb (n + 3) "_law_list" [.val (.lst (zD ns))] = .ok (.val (.tup [.int p, .lst (rows.map lD)])) := by
  have hs : sizeLine = 16777216 := sizeLine_eq
  have c0 := ev_cell (n + 1) ns 0
  have c11 := ev_cell (n + 1) ns 11
  generalize hh : cellF ns 0 = head at c0
  generalize hcc : cellF ns 11 = cell at c11
  have hcells := fun (S1 S2 S3 S4 S5 : Sl) => ev_lcN (i := 8) (s := .emp) (it := ciRg1 (cCst (.int 10))) (elt := (cCall (callF tb (n + 2)) ("_law_cell" : Str) (cCons (cA (cVar 0)) (cCons (cA (cBin oAdd (cCst (.int 1)) (cVar 8))) cNil)))) (xs := List.range 10)
    (ρ := [.val (.lst (zD ns)), S1, S2, S3, S4, S5, .emp, .emp, .emp]) (ρ1 := [.val (.lst (zD ns)), S1, S2, S3, S4, S5, .emp, .emp, .emp]) (fun (k : Nat) => D.int k) (fun (k : Nat) => D.int (cellF ns (1 + k)))
    (by simp [rg1_nat (k := 10) (by omega)]; rfl) rfl rfl (by simp; omega) fun k _ => by
      have := ev_cell (n + 1) ns (1 + k)
      rw [Int.natCast_add] at this
      have this : callF tb (n + 2) "_law_cell" [.val (.lst (zD ns)), .val (.int (1 + (k : Int)))] = _ := this
      simp [this]
  have ecs : ((List.range 10).map fun (k : Nat) => D.int (cellF ns (1 + k))) = zD ((List.range 10).map fun k => cellF ns (1 + k)) := by simp [zD]
  rw [ecs] at hcells
  have hcl : ((List.range 10).map fun k => cellF ns (1 + k)).length = 10 := by simp
  generalize ((List.range 10).map fun k => cellF ns (1 + k)) = cs at hcells hcl
  -- what is drawn, in both ways
  have fin : ∀ (p L count : Nat) (S1 S2 S3 : Sl), P4 p → 1 ≤ L → L ≤ 10 → 1 ≤ count → count ≤ 10 → ∃ rows : List (List Int), LA.Oks p L rows ∧ rows ≠ [] ∧ rows.length ≤ 10 ∧
      resOf ((cSeq (cSet 7 (cLst cNil))
    (cSeq (cFor (ciRg1 (cVar 4)) (tNm 8)
    (llB (callF tb (n + 2))))
    (cRet (cTup (cCons (cV (cFrz 3)) (cCons (cV (cFrz 7)) cNil)))))) [.val (.lst (zD ns)), S1, S2, .val (.int p), .val (.int count), .val (.int L), .own (lD cs), .emp, .emp]) = .ok (.val (.tup [.int p, .lst (rows.map lD)])) := fun p L count S1 S2 S3 hp h1 hL hc1 hc => by
    obtain ⟨s8, e⟩ := ll_loop n hp hL cs (.val (.lst (zD ns))) S1 S2 (.val (.int count)) (count := count) (by omega) hc .emp
    refine ⟨(List.range count).map (rowF cs p L), fun r hr => ?_, fun e => ?_, by simpa using hc, ?_⟩
    · obtain ⟨k, _, rfl⟩ := List.mem_map.mp hr
      exact rowF_ok hp cs k
    · have := congrArg List.length e
      simp at this
      omega
    · have hr := rg1_nat (k := count) (by omega)
      have z2 : sz 2 = true := sz_ok (by omega)
      simp at e
      simp [hr, e, z2]
  have d8 : divOk 8 = true := by decide
  have d32 : divOk 32 = true := by decide
  have d4 : divOk 4 = true := by decide
  have z3 : sz 3 = true := sz_ok (by omega)
  have z4 : sz 4 = true := sz_ok (by omega)
  have i3 : ∀ (a b c : Int) (x : Int), ∃ v : Int, (v = a ∨ v = b ∨ v = c) ∧ ixD (.lst [.int a, .int b, .int c]) (.int (x % 3)) = some (.val (.int v)) := fun a b c x => by
    have : x % 3 = 0 ∨ x % 3 = 1 ∨ x % 3 = 2 := by omega
    rcases this with h | h | h <;> rw [h]
    · exact ⟨a, by simp, rfl⟩
    · exact ⟨b, by simp, rfl⟩
    · exact ⟨c, by simp, rfl⟩
  have i4 : ∀ (a b c d : Int) (x : Int), ∃ v : Int, (v = a ∨ v = b ∨ v = c ∨ v = d) ∧ ixD (.lst [.int a, .int b, .int c, .int d]) (.int (x % 4)) = some (.val (.int v)) := fun a b c d x => by
    have : x % 4 = 0 ∨ x % 4 = 1 ∨ x % 4 = 2 ∨ x % 4 = 3 := by omega
    rcases this with h | h | h | h <;> rw [h]
    · exact ⟨a, by simp, rfl⟩
    · exact ⟨b, by simp, rfl⟩
    · exact ⟨c, by simp, rfl⟩
    · exact ⟨d, by simp, rfl⟩
  obtain ⟨w1, hw1, e1⟩ := i3 2 3 5 cell
  obtain ⟨w2, hw2, e2⟩ := i4 7 3 2 5 cell
  obtain ⟨w3, hw3, e3⟩ := i4 4 7 10 5 cell
  obtain ⟨p1, hp1⟩ : ∃ k : Nat, (k : Int) = w1 := ⟨w1.toNat, by omega⟩
  obtain ⟨p2, hp2⟩ : ∃ k : Nat, (k : Int) = w2 := ⟨w2.toNat, by omega⟩
  obtain ⟨k2, hk2⟩ : ∃ k : Nat, (k : Int) = w3 := ⟨w3.toNat, by omega⟩
  obtain ⟨k1, hk1⟩ : ∃ k : Nat, (k : Int) = 1 + (head / 8 + 2) % 4 := ⟨(1 + (head / 8 + 2) % 4).toNat, by omega⟩
  obtain ⟨l1, hl1⟩ : ∃ k : Nat, (k : Int) = 1 + (head / 32 + 4) % 6 := ⟨(1 + (head / 32 + 4) % 6).toNat, by omega⟩
  obtain ⟨l2, hl2⟩ : ∃ k : Nat, (k : Int) = 9 + (cell / 4 + 1) % 2 := ⟨(9 + (cell / 4 + 1) % 2).toNat, by omega⟩
  have c0 : callF tb (n + 2) "_law_cell" [.val (.lst (zD ns)), .val (.int 0)] = _ := c0
  have c11 : callF tb (n + 2) "_law_cell" [.val (.lst (zD ns)), .val (.int 11)] = _ := c11
  rw [call_fn tb__law_list rfl]
  unfold llB at fin
  by_cases h7 : head % 8 = 7
  · obtain ⟨rows, a1, a2, a3, a4⟩ := fin p2 l2 k2 (.val (.int head)) (.val (.int cell)) .emp (by unfold P4; omega) (by omega) (by omega) (by omega) (by omega)
    refine ⟨p2, l2, rows, by unfold P4; omega, a1, by omega, by omega, a2, a3, ?_⟩
    rw [← a4]
    simp [FI__law_list, B__law_list, c0, c11, z3, z4, e1, e2, e3, d8, d32, d4, h7, hcells, hl2, hp2, hk2, fmn, fdn]
  · obtain ⟨rows, a1, a2, a3, a4⟩ := fin p1 l1 k1 (.val (.int head)) (.val (.int cell)) .emp (by unfold P4; omega) (by omega) (by omega) (by omega) (by omega)
    refine ⟨p1, l1, rows, by unfold P4; omega, a1, by omega, by omega, a2, a3, ?_⟩
    rw [← a4]
    simp [FI__law_list, B__law_list, c0, c11, z3, z4, e1, d8, d32, d4, h7, hcells, hl1, hk1, hp1, fmn, fdn]
end W
end
section
set_option maxRecDepth 100000
/-! E22: k18, _law_just_over, law. -/
namespace W
open PySem L2 PyProof.Rows CI
theorem dig0 {p : Nat} (hp : P4 p) : ∀ k, digS 0 p k = (List.replicate k 0, 0)
  | 0 => rfl
  | k + 1 => by
    show ((digS 0 p k).1 ++ [(digS 0 p k).2 % p], (digS 0 p k).2 / p) = _
    rw [dig0 hp k, List.replicate_succ']
    simp
theorem wide0 {p : Nat} (hp : P4 p) (k L : Nat) : wideF 0 k p L = (List.range L).map fun j => if j = k then 1 else 0 := by
  have hi := hp.inv.1
  unfold wideF digF
  rw [dig0 hp]
  apply List.map_congr_left
  intro j hj
  have : (List.replicate L (0 : Int)).getD j 0 = 0 := by
    rw [List.getD_eq_getElem?_getD, List.getElem?_replicate]
    split <;> rfl
  rw [this]
  split
  · rw [Int.emod_eq_of_lt (by omega) (by omega)]; simp
  · simp
theorem over_pow {p : Nat} (hp : P4 p) {L count : Nat} (hcl : count ≤ L) : p ^ (LA.red p (iv p) L ((List.range count).map fun k => wideF 0 k p L)).length = p ^ count := by
  have hok : LA.Oks p L ((List.range count).map fun k => wideF 0 k p L) := fun r hr => by
    obtain ⟨k, _, rfl⟩ := List.mem_map.mp hr
    exact map_ok hp _
  have h1 := LA.unit_big (k := count) (M := 0) hp.inv hok (by simp) fun i r hr => by
    rw [List.getElem?_map] at hr
    have hi : i < count := by
      rcases Nat.lt_or_ge i count with q | q
      · exact q
      · rw [List.getElem?_eq_none (by simpa using q)] at hr; cases hr
    rw [List.getElem?_range hi] at hr
    obtain rfl : wideF 0 i p L = r := by simpa using hr
    refine ⟨by omega, fun j hj => ?_⟩
    rw [wide0 hp, List.getD_eq_getElem?_getD, List.getElem?_map, List.getElem?_range hj]
    rfl
  have l := LA.lawAll_lst hp.inv hok
  obtain ⟨g1, g2⟩ := LA.red_lst hp.inv (iv_ok hp) hok
  rw [← g2, ← h1]
  exact (g1.perm l).length_eq
theorem ev_over (n : Nat) {L : Nat} (hL : L ≤ 10) (x : Int) : callF tb (n + 8) "_law_just_over" [.val (.int L), .val (.int (x % 3))] = .ok (.val (.bl true)) := by
  have hs : sizeLine = 16777216 := sizeLine_eq
  have z2 : sz 2 = true := sz_ok (by omega)
  have z3 : sz 3 = true := sz_ok (by omega)
  have key : ∀ (p count : Nat), P4 p → 1 ≤ count → count ≤ 10 → 2500 < p ^ count → resOf ((cSeq (cSet 4 (cBlt (bD gMax2) (cCons (cA (cVar 0)) (cCons (cA (cVar 3)) cNil))))
    (cSeq (cSet 5 (cLc (ciRg1 (cVar 3)) (.nm 6) cYes (cCall (callF tb (n + 7)) ("_law_wide" : Str) (cCons (cA (cCst (.int 0))) (cCons (cA (cVar 6)) (cCons (cA (cVar 2)) (cCons (cA (cVar 4)) cNil))))) [6]))
    (cRet (cCall (callF tb (n + 7)) ("_law_refused" : Str) (cCons (cA (cCall (callF tb (n + 7)) ("Table" : Str) (cCons (cA (cFrz 2)) (cCons (cA (cVar 5)) cNil)))) cNil))))) [.val (.int L), .val (.int (x % 3)), .val (.int p), .val (.int count), .emp, .emp, .emp]) = .ok (.val (.bl true)) := fun p count hp h1 h2 hbig => by
    obtain ⟨W, hW, hW1, hW2⟩ : ∃ W : Nat, (W : Int) = (if (count : Int) > (L : Int) then (count : Int) else (L : Int)) ∧ count ≤ W ∧ W ≤ 10 := by
      by_cases h : (count : Int) > (L : Int)
      · exact ⟨count, by rw [if_pos h], by omega, h2⟩
      · exact ⟨L, by rw [if_neg h], by omega, hL⟩
    have hW' : (if L < count then (count : Int) else (L : Int)) = W := by
      rw [hW]
      by_cases h : L < count
      · rw [if_pos h, if_pos (by omega)]
      · rw [if_neg h, if_neg (by omega)]
    let R := (List.range count).map fun k => wideF 0 k p W
    have hok : LA.Oks p W R := fun r hr => by
      obtain ⟨k, _, rfl⟩ := List.mem_map.mp hr
      exact map_ok hp _
    have hrg := rg1_nat (k := count) (by omega)
    have lc := ev_lcN (i := 6) (s := .emp) (it := ciRg1 (cVar 3)) (elt := (cCall (callF tb (n + 7)) ("_law_wide" : Str) (cCons (cA (cCst (.int 0))) (cCons (cA (cVar 6)) (cCons (cA (cVar 2)) (cCons (cA (cVar 4)) cNil)))))) (xs := List.range count)
      (ρ := [.val (.int L), .val (.int (x % 3)), .val (.int p), .val (.int count), .val (.int W), .emp, .emp]) (ρ1 := [.val (.int L), .val (.int (x % 3)), .val (.int p), .val (.int count), .val (.int W), .emp, .emp]) (fun (k : Nat) => D.int k) (fun (k : Nat) => lD (wideF 0 k p W))
      (by simp [hrg, rgD]) rfl rfl (by simp; omega) fun k _ => by
        have := ev_wide (n + 5) 0 k hp W (by omega)
        simp [this]
    have e1 : ((List.range count).map fun (k : Nat) => lD (wideF 0 k p W)) = R.map lD := by simp [R]
    rw [e1] at lc
    obtain ⟨txt, et⟩ := ev_table (n + 6) hp (L := W) (by omega) hW2 (fun r hr => (hok r hr).len) (fun e => by
      have := congrArg List.length e
      simp [R] at this
      omega) (by simp [R]; omega) (.bor (.lst (R.map lD))) (.inr rfl)
    rw [mdR_ok hok] at et
    have hrf := ev_refused hp hok (by omega) (by omega) (by simp [R]; omega) (txt := txt) (n + 1) (by rw [over_pow hp hW1]; exact hbig)
    simp [hW', lc, et, hrf]
  rw [call_fn tb__law_just_over rfl]
  have : x % 3 = 0 ∨ x % 3 = 1 ∨ x % 3 = 2 := by omega
  have i0 : ∀ a b c : D, ixD (.lst [a, b, c]) (.int 0) = some (.val a) := fun _ _ _ => rfl
  have i1 : ∀ a b c : D, ixD (.lst [a, b, c]) (.int 1) = some (.val b) := fun _ _ _ => rfl
  have i2 : ∀ a b c : D, ixD (.lst [a, b, c]) (.int 2) = some (.val c) := fun _ _ _ => rfl
  rcases this with h | h | h
  · have k := key 3 8 (by unfold P4; omega) (by omega) (by omega) (by decide)
    rw [h] at k ⊢
    rw [← k]
    simp [FI__law_just_over, B__law_just_over, z2, z3, i0]
  · have k := key 5 5 (by unfold P4; omega) (by omega) (by omega) (by decide)
    rw [h] at k ⊢
    rw [← k]
    simp [FI__law_just_over, B__law_just_over, z2, z3, i1]
  · have k := key 7 5 (by unfold P4; omega) (by omega) (by omega) (by decide)
    rw [h] at k ⊢
    rw [← k]
    simp [FI__law_just_over, B__law_just_over, z2, z3, i2]
theorem many_loop (cell : Int) (S0 S1 S3 : Sl) {r0 : List Int} {rows : List (List Int)} (h0 : rows[0]? = some r0) (hb : ∀ x ∈ r0, -100 < x ∧ x < 100) (hl : r0.length ≤ 10) (s6 : Sl) :
    ∃ s6', forL (tNm 6) (cApp 5 (cLc (ciSeq (cBin ixD (cVar 2) (cCst (.int 0)))) (.nm 7) cYes (cBin oMod (cBlt (uD gInt) (cCons (cA (cBin oMul (cBin oAdd (cBin oAdd (cVar 6) (cCst (.int 1))) (cVar 4)) (cVar 7))) cNil)) (cCst (.int 5))) [7])) (rgD 0 5) [S0, S1, .val (.lst (rows.map lD)), S3, .val (.int cell), .own (.lst []), s6, .emp] =
      .ok .nx [S0, S1, .val (.lst (rows.map lD)), S3, .val (.int cell), .own (.lst (((List.range 5).map fun (k : Nat) => r0.map fun e => (((k : Int) + 1 + cell) * e) % 5).map lD)), s6', .emp] := by
  have hs : sizeLine = 16777216 := sizeLine_eq
  have hix : ixD (.lst (rows.map lD)) (.int 0) = some (.val (lD r0)) := by
    have := v_ix1 (rows.map lD) 0
    rw [List.getElem?_map, h0] at this
    simpa using this
  let rw1 (k : Nat) : List Int := r0.map fun e => (((k : Int) + 1 + cell) * e) % 5
  have main := forL_inv (t := tNm 6) (body := (cApp 5 (cLc (ciSeq (cBin ixD (cVar 2) (cCst (.int 0)))) (.nm 7) cYes (cBin oMod (cBlt (uD gInt) (cCons (cA (cBin oMul (cBin oAdd (cBin oAdd (cVar 6) (cCst (.int 1))) (cVar 4)) (cVar 7))) cNil)) (cCst (.int 5))) [7]))) (ds := rgD 0 5)
    (fun i ρ => i ≤ 5 ∧ ∃ s6, ρ = [S0, S1, .val (.lst (rows.map lD)), S3, .val (.int cell), .own (.lst (((List.range i).map rw1).map lD)), s6, .emp])
    (i := 0) (ρ := [S0, S1, .val (.lst (rows.map lD)), S3, .val (.int cell), .own (.lst []), s6, .emp]) ⟨Nat.zero_le _, s6, rfl⟩ fun i d ρ _ hd ⟨hi, s6, e⟩ => by
      subst e
      obtain ⟨h1, rfl⟩ := rg_at hd
      rw [Nat.sub_zero] at h1 ⊢
      have hn : ((List.range (i + 1)).map rw1).map lD = ((List.range i).map rw1).map lD ++ [lD (rw1 i)] := by
        rw [List.range_succ]; simp
      have hl2 : (((List.range i).map rw1).map lD).length < sizeLine := by simp; omega
      rw [hn]
      generalize ((List.range i).map rw1).map lD = X at hl2 ⊢
      have hap := fun d => ev_appD (d := d) hl2
      have lc := ev_lcN (i := 7) (s := .emp) (it := (ciSeq (cBin ixD (cVar 2) (cCst (.int 0))))) (elt := (cBin oMod (cBlt (uD gInt) (cCons (cA (cBin oMul (cBin oAdd (cBin oAdd (cVar 6) (cCst (.int 1))) (cVar 4)) (cVar 7))) cNil)) (cCst (.int 5)))) (xs := r0)
        (ρ := [S0, S1, .val (.lst (rows.map lD)), S3, .val (.int cell), .own (.lst X), .val (.int i), .emp]) (ρ1 := [S0, S1, .val (.lst (rows.map lD)), S3, .val (.int cell), .own (.lst X), .val (.int i), .emp]) D.int (fun e => .int ((((i : Int) + 1 + cell) * e) % 5))
        (by simp [hix]) rfl rfl (by omega) fun e he => by
          have := hb e he
          have hm : mulOk ((i : Int) + 1 + cell) e = true := by
            unfold mulOk smallI
            simp
            left; right; omega
          simp [hm, fmn]
      have e1 : (r0.map fun e => D.int ((((i : Int) + 1 + cell) * e) % 5)) = zD (rw1 i) := by simp [rw1, zD]
      rw [e1] at lc
      refine ⟨_, [S0, S1, .val (.lst (rows.map lD)), S3, .val (.int cell), .own (.lst (X ++ [lD (rw1 i)])), .val (.int i), .emp], rfl, ?_, by omega, _, rfl⟩
      simp [lc, hap]
  obtain ⟨ρ', e, _, s6', e2⟩ := main
  refine ⟨s6', ?_⟩
  rw [e, e2, Nat.zero_add, rgD_len]
theorem plain (ns : List Int) (hl : ns.length ≤ 63) : callF tb 20 "law" [.val (.lst (ns.map D.int))] = .ok (.val (.bl true)) := by
  have hs : sizeLine = 16777216 := sizeLine_eq
  obtain ⟨p, L, rows, hp, hR, h1, hL, hne, hrl, e⟩ := ev_list 16 ns
  have c12 := ev_cell 18 ns 12
  have c12 : callF tb 19 "_law_cell" [.val (.lst (zD ns)), .val (.int 12)] = _ := c12
  generalize cellF ns 12 = cell at c12
  obtain ⟨r0, hr0⟩ : ∃ r0, rows[0]? = some r0 := by
    cases rows with
    | nil => exact absurd rfl hne
    | cons a b => exact ⟨a, rfl⟩
  have hr0o := hR r0 (List.mem_of_getElem? hr0)
  have hix : ixD (.lst (rows.map lD)) (.int 0) = some (.val (lD r0)) := by
    have := v_ix1 (rows.map lD) 0
    rw [List.getElem?_map, hr0] at this
    simpa using this
  have hp7 := hp.le
  obtain ⟨s6, em⟩ := many_loop cell (.val (.lst (zD ns))) (.val (.int p)) (.val (.int L)) hr0 (fun x hx => by have := ok_bd hr0o x hx; omega) (by rw [hr0o.len]; exact hL) .emp
  generalize hM : ((List.range 5).map fun (k : Nat) => r0.map fun e => (((k : Int) + 1 + cell) * e) % 5) = M at em
  have h5 : P4 5 := by unfold P4; omega
  have hMo : LA.Oks (5 : Nat) L M := fun r hr => by
    rw [← hM] at hr
    obtain ⟨k, _, rfl⟩ := List.mem_map.mp hr
    refine ⟨by simp [hr0o.len], fun i hi => ?_⟩
    rw [List.getD_eq_getElem?_getD, List.getElem?_map]
    cases r0[i]? with
    | none => simp
    | some x => exact ⟨Int.emod_nonneg _ (by decide), Int.emod_lt_of_pos _ (by decide)⟩
  have hMl : M.length = 5 := by rw [← hM]; simp
  have a1 := ev_holds 12 hp hR h1 hL hne hrl (.val (.lst (rows.map lD))) (.inl rfl)
  have a2 := ev_holds 12 h5 hMo h1 hL (fun e => by rw [e] at hMl; cases hMl) (by omega) (.bor (.lst (M.map lD))) (.inr rfl)
  have hzo : LA.Oks p L [LA.zs L] := fun r hr => by
    obtain rfl : r = LA.zs L := by simpa using hr
    exact LA.zs_ok hp.pos
  have a3 := ev_holds 12 hp hzo h1 hL (by simp) (by simp) (.val (.lst ([LA.zs L].map lD))) (.inl rfl)
  have a3 : callF tb 19 "_law_holds" [.val (.int p), .val (.lst [lD (LA.zs L)])] = _ := a3
  have a4 := ev_over 11 hL (cell / 5)
  have hzs := zs_lD' L (by omega)
  have z1 : sz 1 = true := sz_ok (by omega)
  have rg5 : rg1 (.int 5) = some (rgD 0 5) := rg1_nat (k := 5) (by decide)
  have d5 : divOk 5 = true := by decide
  have a2 : callF tb 19 "_law_holds" [.val (.int 5), .bor (.lst (M.map lD))] = _ := a2
  rw [call_fn tb_law rfl]
  simp [FI_law, B_law, e, a1, hix, hr0o.len, c12, rg5, em, a2, hzs, z1, a3, a4, d5, fmn, fdn]
end W
end
set_option maxRecDepth 100000
set_option maxHeartbeats 0
open PySem PySem.W PySem.Calls PyProof.Rows
theorem PySem.Challenge.cw_strikejoin_k18_words_holds : PySem.Challenge.rw_strikejoin_k18_words.Holds := by
  w_on; o_law
  refine HandSHeadRun.head_any (r := OpenLaw.row PySem.Challenge.rw_strikejoin_k18_words) (q := view (OpenLaw.row PySem.Challenge.rw_strikejoin_k18_words).prog [42]) (H := W.hk) (ob := W.ob) (M := 60000) (loose := W.loose) (d := HandSHeadRun.topDef (OpenLaw.row PySem.Challenge.rw_strikejoin_k18_words).prog 42) (kwd := []) W.ob_eq
    (by kernel_rfl) (fun s => by kernel_rfl) W.run (by kernel_rfl) (by kernel_rfl) (by kernel_rfl) (by rfl) (by first | assumption | decide +kernel) (by decide +kernel) ⟨rfl, rfl, rfl, rfl, rfl, by decide +kernel⟩ ?hw ?hc
  case hw => w_witness2
  case hc =>
    refine CI.walk_end (l := PySem.Challenge.rw_strikejoin_k18_words) (most := 63) (k := 2 * 20) (x := "script") rfl (by decide) (by kernel_rfl) ⟨rfl, by decide, by decide⟩ ?F
    intro w mg fa h Y G hmg0
    obtain ⟨K, KX, c⟩ := Y
    have hmg : mg ("law" : PySem.Str) = some (.ref fa) := by
      have e : (HandSHeadRun.topDef (OpenLaw.row PySem.Challenge.rw_strikejoin_k18_words).prog 42).name = ("law" : PySem.Str) := by kernel_rfl
      rw [← e]
      exact hmg0
    obtain ⟨fd, hb, hF⟩ := W.facts (P := (PySem.Challenge.rw_strikejoin_k18_words).prog) (w := w) c KX G 20
    have e := hmg.symm.trans (He.glo_ok KX G (c.d.fact 23 (f := .glo ("law" : PySem.Str)) rfl))
    cases e
    exact ⟨K, fd, _, KX, hb, fun H a ns hl hS => CI.law_sp c.nol hS (W.plain ns hl), hF⟩
