import PyProof.Rows.All
import Wide.All
import OpenK.AllK
import Wide.FinOn
import PySem.Challenge.RW_soleway_k77_forms_opened
import PySem.Str
import PyProof.EqLayable
import PyProof.P3Statements
import KE.KeyNested
import HandS.ForMost
import HandS.ForExc
import HandS.Deep
import HandS.TupAny
import HandS.TupMul
import HandS.Dict
import KE.KDictPairs
import PyProof.ReprRoads
import HandS.Wide
import HandS.TupLe
import HandS.IsInst
import HandS.SortInts
import HandS.Zip
import HandS.Conv
import PyProof.DictRoadsH
import PyProof.DictMoreH
import HandS.TupLen
import PyProof.Rows.TupTab
import HandS.SetFor
import HandS.SetKeys
import PyProof.Rows.SetFrom
import KE.GoesEnum
import HandS.ExcInit
import HandS.ExcField
import HandS.ExcOwn
import HandS.TryOnly
import HandS.WordsExc
import HandS.ClsMeth
import KE.KExcIs
import HandS.ExcIs
import HandS.EndBits
import KE.KTryMore
import KE.KIsAll
import PyProof.ReprReads
set_option Elab.async false
set_option linter.all false
set_option maxRecDepth 100000
/-! Mid0: a plain model of what the program's defs do: values as data, one list of things that change. -/
namespace Mid
open PySem Classical
noncomputable section

/-- a value: tuples by what they hold (ptup: a pair that zip, enumerate yield, to be taken apart); a thing that changes by its number; fix: an exception, caught, where it lies and its own dict, its fields -/
inductive Dv where
  | non | bl (b : Bool) | int (i : Int) | str (x : Str) | tup (l : List Dv) | ptup (l : List Dv) | clst (l : List Dv) | loc (n : Nat) | fix (a : Nat) (dd : Option Nat) (ks : List Str) (l : List Dv) | ty (n : String)

/-- a thing that changes -/
inductive MO where
  | lst (l : List Dv) | dK (kvs : List (Sum Int Str × Dv)) | dN (kvs : List (NestedKey × Dv)) | ins (C : Nat) (fs : List (Str × Dv))
abbrev Mst := List MO
abbrev Men := List (Option Dv)

/-- an exception: its class by number, its fields -/
structure Xv where
  cls : Nat
  fs : Option (List (Str × Dv))

inductive Rm (α : Type) where
  | ok (a : α) (s : Mst) | er (e : Xv) (s : Mst) | bad
def Rm.bind {α β : Type} (r : Rm α) (f : α → Mst → Rm β) : Rm β := match r with
  | .ok a s => f a s
  | .er e s => .er e s
  | .bad => .bad
@[simp] theorem Rm.bind_ok {α β : Type} (a : α) (s : Mst) (f : α → Mst → Rm β) : (Rm.ok a s).bind f = f a s := rfl
@[simp] theorem Rm.bind_bad {α β : Type} (f : α → Mst → Rm β) : (Rm.bad : Rm α).bind f = .bad := rfl
@[simp] theorem Rm.bind_er {α β : Type} (e : Xv) (s : Mst) (f : α → Mst → Rm β) : (Rm.er e s : Rm α).bind f = .er e s := rfl

/-- where an exception may not leave -/
def Rm.noEr {α : Type} (r : Rm α) : Rm α := match r with
  | .er _ _ => .bad
  | r => r
@[simp] theorem Rm.noEr_ok {α : Type} (a : α) (s : Mst) : (Rm.ok a s).noEr = .ok a s := rfl
@[simp] theorem Rm.noEr_bad {α : Type} : (Rm.bad : Rm α).noEr = .bad := rfl
abbrev ME := Men → Mst → Rm Dv
abbrev MT := Men → Mst → Rm Bool
abbrev MA := Men → Mst → Rm (List Dv)
/-- a def: from its arguments -/
abbrev MF := List Dv → Mst → Rm Dv
inductive Sm where
  | nx (σ : Men) (s : Mst) | rt (d : Dv) (s : Mst) | bk (σ : Men) (s : Mst) | ct (σ : Men) (s : Mst) | er (e : Xv) (σ : Men) (s : Mst) | bad
abbrev MS := Men → Mst → Sm
abbrev MG := Dv → Men → Mst → Rm Men

/-! ### expressions -/
def mVar (i : Nat) : ME := fun σ s => match σ[i]? with
  | some (some d) => .ok d s
  | _ => .bad
def mC (d : Dv) : ME := fun _ s => .ok d s
def mUn (f : Dv → Mst → Rm Dv) (a : ME) : ME := fun σ s => (a σ s).bind f
def mOp (f : Dv → Dv → Mst → Rm Dv) (a b : ME) : ME := fun σ s => (a σ s).bind fun x s1 => (b σ s1).bind fun y s2 => f x y s2
def mArgs : List ME → MA
  | [] => fun _ s => .ok [] s
  | m :: ms => fun σ s => (m σ s).bind fun d s1 => (mArgs ms σ s1).bind fun ds s2 => .ok (d :: ds) s2
def mTup (ms : List ME) : ME := fun σ s => (mArgs ms σ s).bind fun ds s1 => .ok (.tup ds) s1
def mLst (ms : List ME) : ME := fun σ s => (mArgs ms σ s).bind fun ds s1 => .ok (.loc s1.length) (s1 ++ [.lst ds])
/-- f(..): a def, a built-in, a method (its object first) -/
def mCall (F : MF) (ms : List ME) : ME := fun σ s => (mArgs ms σ s).bind F
/-- a new instance of the class C, then its __init__ -/
def mMake (C : Nat) (F : MF) : MF := fun ds s => (F (.loc s.length :: ds) (s ++ [.ins C []])).bind fun d s1 => match d with
  | .non => .ok (.loc s.length) s1
  | _ => .bad
def mTestV (b : MT) : ME := fun σ s => (b σ s).bind fun c s1 => .ok (.bl c) s1
def mtVal (m : ME) : MT := fun σ s => (m σ s).bind fun d s1 => match d with
  | .bl c => .ok c s1
  | _ => .bad
def mtAnd (a b : MT) : MT := fun σ s => (a σ s).bind fun c s1 => if c then b σ s1 else .ok false s1
def mtOr (a b : MT) : MT := fun σ s => (a σ s).bind fun c s1 => if c then .ok true s1 else b σ s1
def mtNot (a : MT) : MT := fun σ s => (a σ s).bind fun c s1 => .ok (!c) s1
def mAnd (a b : ME) : ME := fun σ s => (mtVal a σ s).bind fun c s1 => if c then b σ s1 else .ok (.bl false) s1
def mOr (a b : ME) : ME := fun σ s => (mtVal a σ s).bind fun c s1 => if c then .ok (.bl true) s1 else b σ s1
def mNot (a : ME) : ME := fun σ s => (mtVal a σ s).bind fun c s1 => .ok (.bl (!c)) s1
def mIf (t : MT) (a b : ME) : ME := fun σ s => (t σ s).bind fun c s1 => if c then a σ s1 else b σ s1
/-- a < b < c: two comparisons -/
def mChain (f g : Dv → Dv → Mst → Rm Dv) (a b c : ME) : ME := fun σ s => (a σ s).bind fun x s1 => (b σ s1).bind fun y s2 => (f x y s2).bind fun z s3 => match z with
  | .bl true => (c σ s3).bind fun w s4 => g y w s4
  | .bl false => .ok (.bl false) s3
  | _ => .bad

/-! ### what is walked -/
/-- the items, and the list that has to stay as it is meanwhile -/
structure Mit where
  xs : List Dv
  src : List (Nat × List Dv)
abbrev MI := Men → Mst → Rm Mit
def Mit.stays : List (Nat × List Dv) → Mst → Prop
  | [], _ => True
  | (n, l) :: r, s => s[n]? = some (.lst l) ∧ Mit.stays r s
/-- what a list, a tuple yields -/
def itSeq (d : Dv) (s : Mst) : Rm Mit := match d with
  | .tup l => .ok ⟨l, []⟩ s
  | .clst l => .ok ⟨l, []⟩ s
  | .str x => .ok ⟨x.cps.toList.map fun c => .str ⟨#[c]⟩, []⟩ s
  | .loc n => match s[n]? with
    | some (.lst l) => .ok ⟨l, [(n, l)]⟩ s
    | _ => .bad
  | _ => .bad
def miSeq (m : ME) : MI := fun σ s => (m σ s).bind itSeq
def rngI (lo : Int) (n : Nat) : List Dv := (List.range n).map fun (k : Nat) => Dv.int (lo + (k : Int))
def miRng1 (m : ME) : MI := fun σ s => (m σ s).bind fun d s1 => match d with
  | .int j => @ite _ (-(2 ^ 62) ≤ j ∧ j < 2 ^ 62) (Classical.propDecidable _) (.ok ⟨rngI 0 j.toNat, []⟩ s1) (.bad)
  | _ => .bad
def miRng2 (m1 m2 : ME) : MI := fun σ s => (m1 σ s).bind fun d s1 => (m2 σ s1).bind fun e s2 => match d, e with
  | .int i, .int j => @ite _ (-(2 ^ 62) ≤ i ∧ i < 2 ^ 62 ∧ -(2 ^ 62) ≤ j ∧ j < 2 ^ 62) (Classical.propDecidable _) (.ok ⟨rngI i (j - i).toNat, []⟩ s2) (.bad)
  | _, _ => .bad

/-- the items of a list, a tuple; the list that has to stay -/
def zipQ (d : Dv) (s : Mst) : Option (Bool × List Dv × List (Nat × List Dv)) := match d with
  | .tup l => some (true, l, [])
  | .clst l => some (false, l, [])
  | .loc n => match s[n]? with
    | some (.lst l) => some (false, l, [(n, l)])
    | _ => none
  | _ => none
def miZip (m1 m2 : ME) : MI := fun σ s => (m1 σ s).bind fun d s1 => (m2 σ s1).bind fun e s2 => match zipQ d s2, zipQ e s2 with
  | some (b, l, r), some (c, m, q) => if b = c then .ok ⟨List.zipWith (fun x y => .ptup [x, y]) l m, r ++ q⟩ s2 else .bad
  | _, _ => .bad
/-- enumerate of a list, of a tuple -/
def miEnum (m : ME) : MI := fun σ s => (m σ s).bind fun d s1 => match zipQ d s1 with
  | some (_, l, r) => .ok ⟨(l.zipIdx).map fun p => .ptup [.int p.2, p.1], r⟩ s1
  | _ => .bad

/-! ### targets -/
def gN (i : Nat) : MG := fun d σ s => .ok (σ.set i (some d)) s
def gEach : List MG → List Dv → Men → Mst → Rm Men
  | [], [], σ, s => .ok σ s
  | g :: gs, d :: ds, σ, s => (g d σ s).bind fun σ1 s1 => gEach gs ds σ1 s1
  | _, _, _, _ => .bad
def gT (gs : List MG) : MG := fun d σ s => match d with
  | .tup l => if l.length = gs.length then (gEach gs l σ s).noEr else .bad
  | .ptup l => if l.length = gs.length then (gEach gs l σ s).noEr else .bad
  | _ => .bad

/-! ### comprehensions -/
def mWipe (σ : Men) : List Nat → Men
  | [] => σ
  | i :: r => (mWipe σ r).set i none
def lcF (src : List (Nat × List Dv)) (g : MG) (t : MT) (e : ME) (σ : Men) : List Dv → Mst → Rm (List Dv)
  | [], s => if Mit.stays src s then .ok [] s else .bad
  | x :: xs, s => if Mit.stays src s then (g x σ s).bind fun σ1 s1 => (t σ1 s1).bind fun c s2 =>
      if c then (e σ1 s2).bind fun d s3 => (lcF src g t e σ xs s3).bind fun ds s4 => .ok (d :: ds) s4 else lcF src g t e σ xs s2 else .bad
def mLc (it : MI) (g : MG) (t : MT) (e : ME) (vs : List Nat) : ME := fun σ s => (it σ s).bind fun i s1 => (lcF i.src g t e (mWipe σ vs) i.xs s1).noEr.bind fun ds s2 =>
  @ite _ (i.xs.length < 2 ^ 24) (Classical.propDecidable _) (.ok (.loc s2.length) (s2 ++ [.lst ds])) (.bad)
def mtYes : MT := fun _ s => .ok true s

/-! ### statements -/
def Sm.andThen (r : Sm) (f : MS) : Sm := match r with
  | .nx σ s => f σ s
  | r => r
@[simp] theorem Sm.andThen_nx (σ : Men) (s : Mst) (f : MS) : (Sm.nx σ s).andThen f = f σ s := rfl
@[simp] theorem Sm.andThen_rt (d : Dv) (s : Mst) (f : MS) : (Sm.rt d s).andThen f = .rt d s := rfl
@[simp] theorem Sm.andThen_bad (f : MS) : Sm.bad.andThen f = .bad := rfl
@[simp] theorem Sm.andThen_er (e : Xv) (σ : Men) (s : Mst) (f : MS) : (Sm.er e σ s).andThen f = .er e σ s := rfl
@[simp] theorem Sm.andThen_bk (σ : Men) (s : Mst) (f : MS) : (Sm.bk σ s).andThen f = .bk σ s := rfl
@[simp] theorem Sm.andThen_ct (σ : Men) (s : Mst) (f : MS) : (Sm.ct σ s).andThen f = .ct σ s := rfl
/-- from an expression's end -/
def Rm.st {α : Type} (r : Rm α) (σ : Men) (f : α → Mst → Sm) : Sm := match r with
  | .ok a s => f a s
  | .er e s => .er e σ s
  | .bad => .bad
@[simp] theorem Rm.st_ok {α : Type} (a : α) (s : Mst) (σ : Men) (f : α → Mst → Sm) : (Rm.ok a s).st σ f = f a s := rfl
@[simp] theorem Rm.st_bad {α : Type} (σ : Men) (f : α → Mst → Sm) : (Rm.bad : Rm α).st σ f = .bad := rfl
@[simp] theorem Rm.st_er {α : Type} (e : Xv) (s : Mst) (σ : Men) (f : α → Mst → Sm) : (Rm.er e s : Rm α).st σ f = .er e σ s := rfl
def msNx : MS := fun σ s => .nx σ s
def msBad : MS := fun _ _ => .bad
def msSeq (a b : MS) : MS := fun σ s => (a σ s).andThen b
def msSet (i : Nat) (e : ME) : MS := fun σ s => (e σ s).st σ fun d s1 => .nx (σ.set i (some d)) s1
def msAsg (g : MG) (e : ME) : MS := fun σ s => (e σ s).st σ fun d s1 => (g d σ s1).st σ fun σ1 s2 => .nx σ1 s2
def msExp (e : ME) : MS := fun σ s => (e σ s).st σ fun _ s1 => .nx σ s1
def msRet (e : ME) : MS := fun σ s => (e σ s).st σ fun d s1 => .rt d s1
def msRetN : MS := fun _ s => .rt .non s
def msBrk : MS := fun σ s => .bk σ s
def msCnt : MS := fun σ s => .ct σ s
def msIf (t : MT) (a b : MS) : MS := fun σ s => (t σ s).st σ fun c s1 => if c then a σ s1 else b σ s1
/-- o[i] = e by what is done at the values (o, i, e) -/
def msPut (f : Dv → Dv → Dv → Mst → Rm Unit) (o i e : ME) : MS := fun σ s => (e σ s).st σ fun v s1 => (o σ s1).st σ fun x s2 => (i σ s2).st σ fun y s3 => (f x y v s3).st σ fun _ s4 => .nx σ s4
/-- o.f = e -/
def msFld (C : Nat) (f : Str) (o e : ME) : MS := fun σ s => (e σ s).st σ fun v s1 => (o σ s1).st σ fun x s2 => match x with
  | .loc n => match s2[n]? with
    | some (.ins C' fs) => if C' = C ∧ fs.length < 1000 then .nx σ (s2.set n (.ins C (match fs.lookup f with
        | some _ => fs.map fun p => if p.1 = f then (f, v) else p
        | none => fs ++ [(f, v)]))) else .bad
    | _ => .bad
  | _ => .bad
/-- one more turn of a loop -/
def Sm.turn (r : Sm) (f : MS) : Sm := match r with
  | .nx σ s => f σ s
  | .ct σ s => f σ s
  | .bk σ s => .nx σ s
  | r => r
@[simp] theorem Sm.turn_nx (σ : Men) (s : Mst) (f : MS) : (Sm.nx σ s).turn f = f σ s := rfl
@[simp] theorem Sm.turn_ct (σ : Men) (s : Mst) (f : MS) : (Sm.ct σ s).turn f = f σ s := rfl
@[simp] theorem Sm.turn_bk (σ : Men) (s : Mst) (f : MS) : (Sm.bk σ s).turn f = .nx σ s := rfl
@[simp] theorem Sm.turn_rt (d : Dv) (s : Mst) (f : MS) : (Sm.rt d s).turn f = .rt d s := rfl
@[simp] theorem Sm.turn_bad (f : MS) : Sm.bad.turn f = .bad := rfl
@[simp] theorem Sm.turn_er (e : Xv) (σ : Men) (s : Mst) (f : MS) : (Sm.er e σ s).turn f = .er e σ s := rfl
def forF (src : List (Nat × List Dv)) (g : MG) (b : MS) : List Dv → MS
  | [], σ, s => if Mit.stays src s then .nx σ s else .bad
  | x :: xs, σ, s => if Mit.stays src s then (g x σ s).st σ fun σ1 s1 => (b σ1 s1).turn (forF src g b xs) else .bad
def msFor (it : MI) (g : MG) (b : MS) : MS := fun σ s => (it σ s).st σ fun i s1 => forF i.src g b i.xs σ s1
def whileF (t : MT) (b : MS) : Nat → MS
  | 0, _, _ => .bad
  | n + 1, σ, s => (t σ s).st σ fun c s1 => if c then (b σ s1).turn (whileF t b n) else .nx σ s1
def msWhile (t : MT) (b : MS) : MS := fun σ s => if h : ∃ n, whileF t b n σ s ≠ .bad then whileF t b (Classical.choose h) σ s else .bad

theorem whileF_succ {t : MT} {b : MS} : ∀ {n : Nat} {σ : Men} {s : Mst}, whileF t b n σ s ≠ .bad → whileF t b (n + 1) σ s = whileF t b n σ s
  | 0, _, _, h => absurd rfl h
  | n + 1, σ, s, h => by
    show (t σ s).st σ (fun c s1 => if c then (b σ s1).turn (whileF t b (n + 1)) else .nx σ s1) = (t σ s).st σ (fun c s1 => if c then (b σ s1).turn (whileF t b n) else .nx σ s1)
    have h' : (t σ s).st σ (fun c s1 => if c then (b σ s1).turn (whileF t b n) else .nx σ s1) ≠ .bad := h
    cases e : t σ s with
    | bad => rfl
    | er x s1 => rfl
    | ok c s1 =>
      rw [e] at h'
      cases c with
      | false => rfl
      | true =>
        simp only [Rm.st_ok, if_true] at h' ⊢
        cases e2 : b σ s1 with
        | nx σ2 s2 => rw [e2] at h'; exact whileF_succ h'
        | ct σ2 s2 => rw [e2] at h'; exact whileF_succ h'
        | bk σ2 s2 => rfl
        | rt d s2 => rfl
        | er x σ2 s2 => rfl
        | bad => rfl
theorem whileF_mono {t : MT} {b : MS} {n m : Nat} {σ : Men} {s : Mst} (h : whileF t b n σ s ≠ .bad) (hm : n ≤ m) : whileF t b m σ s = whileF t b n σ s := by
  induction m with
  | zero => rw [Nat.le_zero.mp hm]
  | succ m ih =>
    by_cases e : n = m + 1
    · rw [e]
    · have hi := ih (by omega)
      rw [whileF_succ (by rw [hi]; exact h), hi]
theorem msWhile_of {t : MT} {b : MS} {n : Nat} {σ : Men} {s : Mst} (h : whileF t b n σ s ≠ .bad) : msWhile t b σ s = whileF t b n σ s := by
  have hx : ∃ n, whileF t b n σ s ≠ .bad := ⟨n, h⟩
  unfold msWhile
  rw [dif_pos hx]
  have h2 := Classical.choose_spec hx
  by_cases hle : n ≤ Classical.choose hx
  · exact whileF_mono h hle
  · exact (whileF_mono h2 (by omega)).symm
theorem msWhile_ex {t : MT} {b : MS} {σ : Men} {s : Mst} (h : msWhile t b σ s ≠ .bad) : ∃ n, msWhile t b σ s = whileF t b n σ s := by
  by_cases hx : ∃ n, whileF t b n σ s ≠ .bad
  · exact ⟨_, by unfold msWhile; rw [dif_pos hx]⟩
  · exact absurd (by unfold msWhile; rw [dif_neg hx]) h

/-! ### a def by its body -/
def mStart (n : Nat) (ds : List Dv) : Men := ds.map some ++ List.replicate (n - ds.length) none
/-- a def of k parameters and n names -/
def mFun (k n : Nat) (b : MS) : MF := fun ds s => @ite _ (ds.length = k) (Classical.propDecidable _) (match b (mStart n ds) s with
  | .nx _ s1 => .ok .non s1
  | .rt d s1 => .ok d s1
  | .er e _ s1 => .er e s1
  | _ => .bad) .bad

/-- a def that lets no exception out, called -/
def noE (F : MF) : MF := fun ds s => (F ds s).noEr
theorem noE_ok {F : MF} {ds : List Dv} {s s' : Mst} {d : Dv} (h : F ds s = .ok d s') : noE F ds s = .ok d s' := by unfold noE; rw [h]; rfl

/-! ### keys that are tuples -/
mutual
def nkP : PyData → Option NestedKey
  | .none => some .none
  | .bool b => some (.num (if b = true then 1 else 0))
  | .int i => some (.num i)
  | .str x => some (.text x)
  | .tuple l => (nkPs l).map .tup
  | .list _ => none
  | .dict _ => none
def nkPs : List PyData → Option (List NestedKey)
  | [] => some []
  | d :: r => match nkP d, nkPs r with
    | some k, some ks => some (k :: ks)
    | _, _ => none
end
/-! ### data as a whole -/
/-- what a value is, all within it read -/
def datA (f : Dv → Option PyData) : List Dv → Option (List PyData)
  | [] => some []
  | d :: ds => match f d, datA f ds with
    | some x, some xs => some (x :: xs)
    | _, _ => none
def dat (s : Mst) : Nat → Dv → Option PyData
  | 0, _ => none
  | n + 1, d => match d with
    | .non => some .none
    | .bl b => some (.bool b)
    | .int i => some (.int i)
    | .str x => some (.str x)
    | .tup l => (datA (dat s n) l).map .tuple
    | .clst l => (datA (dat s n) l).map .list
    | .loc k => match s[k]? with
      | some (.lst l) => (datA (dat s n) l).map .list
      | _ => none
    | _ => none
/-- a tuple as a key: what is in it does not change -/
def keyN : Dv → Option NestedKey
  | .tup l => match (dat [] 66 (.tup l)).bind nkP with
    | some k => if k.depth ≤ 8 then some k else none
    | none => none
  | _ => none
end
end Mid
/-! Mid1: the plain model over the hand layer: what it tells is what the model of Python does. -/
namespace Mid
open PySem PySem.Spec L2 Classical

/-- where the classes lie; the world -/
structure Kap where
  at' : Nat → Addr
  w : World
instance : CoeFun Kap fun _ => Nat → Addr := ⟨Kap.at'⟩
/-- the entries of a dict of tuples, as they lie -/
abbrev PN (es : List (NestedKey × Addr × V)) (xs : List (NestedKey × Addr × Value)) : Prop := Paired (fun (p : NestedKey × Addr × V) (q : NestedKey × Addr × Value) => p.1 = q.1 ∧ p.2.1 = q.2.1 ∧ RelV p.2.2 q.2.2) es xs
/-- a dict of tuples: its one object -/
def dNO (w : World) (a : Addr) (es : List (NestedKey × Addr × V)) : HO := .ext fun h => (a == sysModules) = false ∧ es.length ≤ sizeLine ∧ (es.map (·.1)).Nodup ∧
  ∃ xs o ds ep, PN es xs ∧ h.get? a = some o ∧ o.ExactDict ∧ o.data = .dict ds ep ∧ ds.toList = xs.map fun x => ⟨x.1.hash w, .ref x.2.1, x.2.2⟩
/-! ### values -/
section
variable (K : PySem.W.Frag) (κ : Kap)
/-- a list that never changes: locked, or of the module's own top -/
def SqI (H : Hp) (a : Addr) (xs : List V) : Prop := (∃ o, H a = some (.frz o (.lst xs))) ∨
  ∃ (o : Obj) (its : Array Value) (n : Nat), K.lookup a = some o ∧ o.cls = .type "list" ∧ o.dict = none ∧ o.data = .seq its n ∧ its.size ≤ sizeLine ∧ Vals xs its.toList
/-- a tuple that has no dict of its own -/
def tupO (its : List Value) : Obj := { cls := .type "tuple", data := .seq its.toArray }
def SqD (H : Hp) (a : Addr) (xs : List V) : Prop := (∃ its, H a = some (.frz (tupO its) (.tup xs))) ∨
  ∃ (o : Obj) (its : Array Value) (n : Nat), K.lookup a = some o ∧ o.cls = .type "tuple" ∧ o.dict = none ∧ o.data = .seq its n ∧ its.size ≤ sizeLine ∧ Vals xs its.toList
theorem SqD.tup {K : PySem.W.Frag} {H : Hp} {a : Addr} {xs : List V} (h : SqD K H a xs) : SqT K H a xs := by
  rcases h with ⟨its, h⟩ | ⟨o, its, n, h1, h2, _, h3⟩
  · exact .inl (.inr ⟨_, h⟩)
  · exact .inr ⟨o, its, n, h1, h2, h3⟩
mutual
def VR (ρ : List Addr) (H : Hp) : Dv → V → Prop
  | .non, v => v = .non
  | .bl b, v => v = .bl b
  | .int i, v => v = .int i
  | .str x, v => v = .str x
  | .tup l, v => ∃ a vs, v = .ref a ∧ SqD K H a vs ∧ VRs ρ H l vs
  | .ptup l, v => ∃ a vs, v = .ref a ∧ SqT K H a vs ∧ VRs ρ H l vs
  | .clst l, v => ∃ a vs, v = .ref a ∧ SqI K H a vs ∧ VRs ρ H l vs
  | .loc n, v => ∃ a, ρ[n]? = some a ∧ v = .ref a
  | .fix a dd ks l, v => (v = .ref a ∧ κ = κ) ∧ ∀ p, dd = some p → ∃ vs : List (Str × V), H p = some (.xd vs) ∧ vs.map (·.1) = ks ∧ VRs ρ H l (vs.map (·.2))
  | .ty n, v => v = .ty n
def VRs (ρ : List Addr) (H : Hp) : List Dv → List V → Prop
  | [], vs => vs = []
  | d :: ds, vs => ∃ v r, vs = v :: r ∧ VR ρ H d v ∧ VRs ρ H ds r
end
def OR (ρ : List Addr) (H : Hp) (a : Addr) : MO → Prop
  | .lst l => ∃ vs, H a = some (.lst vs) ∧ VRs K κ ρ H l vs
  | .dK kvs => ∃ vs : List (Key × V), H a = some (.dK vs) ∧ vs.map (·.1) = kvs.map (·.1) ∧ VRs K κ ρ H (kvs.map (·.2)) (vs.map (·.2))
  | .dN kvs => ∃ es : List (NestedKey × Addr × V), H a = some (dNO κ.w a es) ∧ es.map (·.1) = kvs.map (·.1) ∧ VRs K κ ρ H (kvs.map (·.2)) (es.map (·.2.2)) ∧ ∀ e ∈ es, ∃ kd, VR K κ ρ H kd (.ref e.2.1) ∧ keyN kd = some e.1
  | .ins C fs => ∃ dx vs, H a = some (.ins (κ C) dx vs) ∧ vs.map (·.1) = fs.map (·.1) ∧ VRs K κ ρ H (fs.map (·.2)) (vs.map (·.2))
structure Rel (ρ : List Addr) (H : Hp) (s : Mst) : Prop where
  len : ρ.length = s.length
  nd : ρ.Nodup
  obj : ∀ (n : Nat) (a : Addr) (o : MO), ρ[n]? = some a → s[n]? = some o → OR K κ ρ H a o
def ERo (ρ : List Addr) (H : Hp) : Option Dv → Option V → Prop
  | some d, o => ∃ v, o = some v ∧ VR K κ ρ H d v
  | none, _ => True
/-- the names' values -/
structure ER (ρ : List Addr) (H : Hp) (σd : Men) (σ : St) : Prop where
  len : σ.length = σd.length
  at_ : ∀ (i : Nat) (d : Dv), σd[i]? = some (some d) → ∃ v, σ[i]? = some (some v) ∧ VR K κ ρ H d v
end

/-- from one moment to a later one -/
structure Step (ρ : List Addr) (H : Hp) (ρ' : List Addr) (H' : Hp) : Prop where
  pre : ∃ l, ρ' = ρ ++ l ∧ ∀ p ∈ l, H p = none
  keep : ∀ b o, H b = some o → b ∉ ρ → H' b = some o
  live : ∀ b, H b ≠ none → H' b ≠ none

section
variable {K : PySem.W.Frag} {κ : Kap} {ρ ρ' ρ1 ρ2 : List Addr} {H H' H1 H2 : Hp} {s st st' : Mst} {a b : Addr}

theorem Step.refl : Step ρ H ρ H := ⟨⟨[], by simp, by simp⟩, fun _ _ h _ => h, fun _ h => h⟩
theorem Step.trans (x : Step ρ H ρ1 H1) (y : Step ρ1 H1 ρ2 H2) : Step ρ H ρ2 H2 := by
  obtain ⟨l, rfl, hl⟩ := x.pre
  obtain ⟨m, rfl, hm⟩ := y.pre
  refine ⟨⟨l ++ m, by rw [List.append_assoc], fun p hp => ?_⟩, fun b o e hb => ?_, fun b e => y.live b (x.live b e)⟩
  · rcases List.mem_append.mp hp with h | h
    · exact hl p h
    · cases q : H p with
      | none => rfl
      | some o => exact absurd (hm p h) (x.live p (by rw [q]; simp))
  · refine y.keep b o (x.keep b o e hb) fun hm' => ?_
    rcases List.mem_append.mp hm' with h | h
    · exact hb h
    · rw [hl b h] at e; cases e
theorem Step.get (x : Step ρ H ρ' H') {n : Nat} (h : ρ[n]? = some a) : ρ'[n]? = some a := by
  obtain ⟨l, rfl, _⟩ := x.pre
  rw [List.getElem?_append_left (List.getElem?_eq_some_iff.mp h).1]
  exact h
theorem Step.free (x : Step ρ H ρ' H') (h : H' a = Option.none) : H a = Option.none := by
  cases q : H a with
  | none => rfl
  | some o => exact absurd h (x.live a (by rw [q]; simp))

/-- what stands at a place of the list of changing things is no tuple and nothing locked -/
def Chg (a : Addr) : HO → Prop
  | .lst _ => True
  | .dK _ => True
  | .ext φ => ∃ w es, HO.ext φ = dNO w a es
  | .ins _ _ _ => True
  | _ => False
theorem OR.chg {o : MO} (h : OR K κ ρ H a o) : ∃ u, H a = some u ∧ Chg a u := by
  cases o with
  | lst l => obtain ⟨vs, e, _⟩ := h; exact ⟨_, e, trivial⟩
  | dK l => obtain ⟨vs, e, _⟩ := h; exact ⟨_, e, trivial⟩
  | dN l => obtain ⟨es, e, _⟩ := h; exact ⟨_, e, κ.w, es, rfl⟩
  | ins C l => obtain ⟨dx, vs, e, _⟩ := h; exact ⟨_, e, trivial⟩
theorem Rel.chg (R : Rel K κ ρ H s) (h : a ∈ ρ) : ∃ u, H a = some u ∧ Chg a u := by
  obtain ⟨n, hn⟩ := List.mem_iff_getElem?.mp h
  have hl := (List.getElem?_eq_some_iff.mp hn).1
  have hs : n < s.length := by rw [← R.len]; exact hl
  exact (R.obj n a s[n] hn (List.getElem?_eq_getElem hs)).chg
theorem Rel.out (R : Rel K κ ρ H s) {u : HO} (e : H a = some u) (hu : ¬ Chg a u) : a ∉ ρ := fun h => by
  obtain ⟨u', e', c⟩ := R.chg h
  rw [e] at e'; cases e'
  exact hu c
theorem Rel.fresh (R : Rel K κ ρ H s) (e : H a = none) : a ∉ ρ := fun h => by
  obtain ⟨u', e', c⟩ := R.chg h
  rw [e] at e'; cases e'
/-- what values lean on is kept -/
structure Kp (ρ : List Addr) (H : Hp) (ρ' : List Addr) (H' : Hp) : Prop where
  ix : ∀ (n : Nat) (a : Addr), ρ[n]? = some a → ρ'[n]? = some a
  tup : ∀ a xs, H a = some (.tup xs) → H' a = some (.tup xs)
  frz : ∀ a o u, H a = some (.frz o u) → H' a = some (.frz o u)
  xds : ∀ a vs, H a = some (.xd vs) → H' a = some (.xd vs)
theorem Step.kp (R : Rel K κ ρ H s) (x : Step ρ H ρ' H') : Kp ρ H ρ' H' :=
  ⟨fun _ _ h => x.get h, fun _ _ h => x.keep _ _ h (R.out h fun z => z), fun _ _ _ h => x.keep _ _ h (R.out h fun z => z), fun _ _ h => x.keep _ _ h (R.out h fun z => z)⟩
theorem SqT.kp (x : Kp ρ H ρ' H') {vs : List V} (h : SqT K H a vs) : SqT K H' a vs := by
  rcases h with (h | ⟨o, h⟩) | h
  · exact .inl (.inl (x.tup _ _ h))
  · exact .inl (.inr ⟨o, x.frz _ _ _ h⟩)
  · exact .inr h
theorem SqD.kp (x : Kp ρ H ρ' H') {vs : List V} (h : SqD K H a vs) : SqD K H' a vs := by
  rcases h with ⟨its, h⟩ | h
  · exact .inl ⟨its, x.frz _ _ _ h⟩
  · exact .inr h
theorem SqI.kp (x : Kp ρ H ρ' H') {vs : List V} (h : SqI K H a vs) : SqI K H' a vs := by
  rcases h with ⟨o, h⟩ | h
  · exact .inl ⟨o, x.frz _ _ _ h⟩
  · exact .inr h
mutual
theorem VR.kp (x : Kp ρ H ρ' H') : ∀ (d : Dv) (v : V), VR K κ ρ H d v → VR K κ ρ' H' d v
  | .non, _, h => by simp only [VR] at h ⊢; exact h
  | .bl _, _, h => by simp only [VR] at h ⊢; exact h
  | .int _, _, h => by simp only [VR] at h ⊢; exact h
  | .str _, _, h => by simp only [VR] at h ⊢; exact h
  | .tup l, v, h => by
    simp only [VR] at h ⊢
    obtain ⟨a, vs, e, q, r⟩ := h
    exact ⟨a, vs, e, SqD.kp x q, VRs.kp x l vs r⟩
  | .ptup l, v, h => by
    simp only [VR] at h ⊢
    obtain ⟨a, vs, e, q, r⟩ := h
    exact ⟨a, vs, e, SqT.kp x q, VRs.kp x l vs r⟩
  | .clst l, v, h => by
    simp only [VR] at h ⊢
    obtain ⟨a, vs, e, q, r⟩ := h
    exact ⟨a, vs, e, SqI.kp x q, VRs.kp x l vs r⟩
  | .loc n, v, h => by
    simp only [VR] at h ⊢
    obtain ⟨a, e, q⟩ := h
    exact ⟨a, x.ix _ _ e, q⟩
  | .fix a dd ks l, v, h => by
    simp only [VR] at h ⊢
    exact ⟨h.1, fun p hp => let ⟨vs, h1, h2, h3⟩ := h.2 p hp; ⟨vs, x.xds _ _ h1, h2, VRs.kp x l _ h3⟩⟩
  | .ty _, _, h => by simp only [VR] at h ⊢; exact h
theorem VRs.kp (x : Kp ρ H ρ' H') : ∀ (ds : List Dv) (vs : List V), VRs K κ ρ H ds vs → VRs K κ ρ' H' ds vs
  | [], _, h => by simp only [VRs] at h ⊢; exact h
  | d :: ds, vs, h => by
    simp only [VRs] at h ⊢
    obtain ⟨v, r, e, h1, h2⟩ := h
    exact ⟨v, r, e, VR.kp x d v h1, VRs.kp x ds r h2⟩
end
theorem SqT.later (R : Rel K κ ρ H s) (x : Step ρ H ρ' H') {vs : List V} (h : SqT K H a vs) : SqT K H' a vs := SqT.kp (x.kp R) h
theorem SqI.later (R : Rel K κ ρ H s) (x : Step ρ H ρ' H') {vs : List V} (h : SqI K H a vs) : SqI K H' a vs := SqI.kp (x.kp R) h
theorem VR.later (R : Rel K κ ρ H s) (x : Step ρ H ρ' H') (d : Dv) (v : V) (h : VR K κ ρ H d v) : VR K κ ρ' H' d v := VR.kp (x.kp R) d v h
theorem VRs.later (R : Rel K κ ρ H s) (x : Step ρ H ρ' H') (ds : List Dv) (vs : List V) (h : VRs K κ ρ H ds vs) : VRs K κ ρ' H' ds vs := VRs.kp (x.kp R) ds vs h
theorem ER.kp (x : Kp ρ H ρ' H') {σd : Men} {σ : L2.St} (h : ER K κ ρ H σd σ) : ER K κ ρ' H' σd σ :=
  ⟨h.len, fun i d e => let ⟨v, e', r⟩ := h.at_ i d e; ⟨v, e', VR.kp x d v r⟩⟩
theorem OR.kp {o : MO} (x : Kp ρ H ρ' H') (h : OR K κ ρ H a o) (e : H' a = H a) : OR K κ ρ' H' a o := by
  cases o with
  | lst l => obtain ⟨vs, q, r⟩ := h; exact ⟨vs, e.trans q, VRs.kp x _ _ r⟩
  | dK l => obtain ⟨vs, q, k, r⟩ := h; exact ⟨vs, e.trans q, k, VRs.kp x _ _ r⟩
  | dN l => obtain ⟨vs, q, k, r, t⟩ := h; exact ⟨vs, e.trans q, k, VRs.kp x _ _ r, fun p hp => let ⟨kd, h1, h2⟩ := t p hp; ⟨kd, VR.kp x _ _ h1, h2⟩⟩
  | ins C l => obtain ⟨dx, vs, q, k, r⟩ := h; exact ⟨dx, vs, e.trans q, k, VRs.kp x _ _ r⟩
theorem ER.later (R : Rel K κ ρ H s) (x : Step ρ H ρ' H') {σd : Men} {σ : St} (h : ER K κ ρ H σd σ) : ER K κ ρ' H' σd σ :=
  ⟨h.len, fun i d e => let ⟨v, e', r⟩ := h.at_ i d e; ⟨v, e', VR.later R x d v r⟩⟩
theorem VR.tupD {l : List Dv} {v : V} (h : VR K κ ρ H (.tup l) v) : ∃ a vs, v = .ref a ∧ SqD K H a vs ∧ VRs K κ ρ H l vs := by simpa only [VR] using h
theorem VR.tupE {l : List Dv} {v : V} (h : VR K κ ρ H (.tup l) v) : ∃ a vs, v = .ref a ∧ SqT K H a vs ∧ VRs K κ ρ H l vs :=
  let ⟨a, vs, e, q, r⟩ := h.tupD; ⟨a, vs, e, q.tup, r⟩
theorem VR.ptupE {l : List Dv} {v : V} (h : VR K κ ρ H (.ptup l) v) : ∃ a vs, v = .ref a ∧ SqT K H a vs ∧ VRs K κ ρ H l vs := by simpa only [VR] using h
theorem VRs.nil : VRs K κ ρ H [] [] := by simp only [VRs]
theorem VRs.cons {d : Dv} {v : V} {ds : List Dv} {vs : List V} (h : VR K κ ρ H d v) (r : VRs K κ ρ H ds vs) : VRs K κ ρ H (d :: ds) (v :: vs) := by
  simp only [VRs]; exact ⟨v, vs, rfl, h, r⟩
theorem VRs.length : ∀ {ds : List Dv} {vs : List V}, VRs K κ ρ H ds vs → vs.length = ds.length
  | [], _, h => by simp only [VRs] at h; subst h; rfl
  | d :: ds, vs, h => by
    simp only [VRs] at h
    obtain ⟨v, r, rfl, _, h2⟩ := h
    simp [VRs.length h2]
theorem VRs.append : ∀ {ds es : List Dv} {vs us : List V}, VRs K κ ρ H ds vs → VRs K κ ρ H es us → VRs K κ ρ H (ds ++ es) (vs ++ us)
  | [], _, _, _, h, g => by simp only [VRs] at h; subst h; exact g
  | d :: ds, es, vs, us, h, g => by
    simp only [VRs] at h
    obtain ⟨v, r, rfl, h1, h2⟩ := h
    exact .cons h1 (VRs.append h2 g)
theorem VRs.get : ∀ {ds : List Dv} {vs : List V} {i : Nat} {d : Dv}, VRs K κ ρ H ds vs → ds[i]? = some d → ∃ v, vs[i]? = some v ∧ VR K κ ρ H d v
  | [], _, _, _, _, e => by simp at e
  | d :: ds, vs, 0, d', h, e => by
    simp only [VRs] at h
    obtain ⟨v, r, rfl, h1, h2⟩ := h
    simp at e; subst e
    exact ⟨v, rfl, h1⟩
  | d :: ds, vs, i + 1, d', h, e => by
    simp only [VRs] at h
    obtain ⟨v, r, rfl, h1, h2⟩ := h
    obtain ⟨u, e1, e2⟩ := VRs.get (i := i) h2 (by simpa using e)
    exact ⟨u, by simpa using e1, e2⟩
theorem VRs.drop : ∀ {ds : List Dv} {vs : List V} (n : Nat), VRs K κ ρ H ds vs → VRs K κ ρ H (ds.drop n) (vs.drop n)
  | ds, vs, 0, h => by simpa using h
  | [], vs, n + 1, h => by simp only [VRs] at h; subst h; exact .nil
  | d :: ds, vs, n + 1, h => by
    simp only [VRs] at h
    obtain ⟨v, r, rfl, h1, h2⟩ := h
    simpa using VRs.drop n h2
theorem VRs.take : ∀ {ds : List Dv} {vs : List V} (n : Nat), VRs K κ ρ H ds vs → VRs K κ ρ H (ds.take n) (vs.take n)
  | ds, vs, 0, h => by simpa using VRs.nil
  | [], vs, n + 1, h => by simp only [VRs] at h; subst h; exact .nil
  | d :: ds, vs, n + 1, h => by
    simp only [VRs] at h
    obtain ⟨v, r, rfl, h1, h2⟩ := h
    simpa using VRs.cons h1 (VRs.take n h2)
theorem VRs.set {d : Dv} {v : V} (h1 : VR K κ ρ H d v) : ∀ {ds : List Dv} {vs : List V} (n : Nat), VRs K κ ρ H ds vs → VRs K κ ρ H (ds.set n d) (vs.set n v)
  | [], vs, n, h => by simp only [VRs] at h; subst h; simpa using VRs.nil
  | e :: ds, vs, 0, h => by
    simp only [VRs] at h
    obtain ⟨u, r, rfl, h3, h2⟩ := h
    simpa using VRs.cons h1 h2
  | e :: ds, vs, n + 1, h => by
    simp only [VRs] at h
    obtain ⟨u, r, rfl, h3, h2⟩ := h
    simpa using VRs.cons h3 (VRs.set h1 n h2)
theorem VRs.cut {ds : List Dv} {vs : List V} {es : List Dv} : ∀ {fs : List Dv}, VRs K κ ρ H (es ++ fs) vs → ∃ us ws, vs = us ++ ws ∧ VRs K κ ρ H es us ∧ VRs K κ ρ H fs ws := by
  intro fs h
  refine ⟨vs.take es.length, vs.drop es.length, (List.take_append_drop _ _).symm, ?_, ?_⟩
  · have := VRs.take es.length h; simpa using this
  · have := VRs.drop es.length h; simpa using this

/-! ### how the list of changing things goes on -/
/-- something new that is no changing thing (a tuple), or that isn't told of -/
theorem Step.lay (n : H a = none) {o : HO} : Step ρ H ρ (upd H a o) :=
  ⟨⟨[], by simp, by simp⟩, fun b u e _ => by rw [upd_ne (ne_of_none e n)]; exact e, fun b e => by
    by_cases h : b = a
    · subst h; rw [upd_same]; simp
    · rw [upd_ne h]; exact e⟩
theorem OR.keep {o : MO} (R : Rel K κ ρ H s) (x : Step ρ H ρ' H') (h : OR K κ ρ H a o) (e : H' a = H a) : OR K κ ρ' H' a o := OR.kp (x.kp R) h e
theorem Rel.lay (R : Rel K κ ρ H s) (n : H a = none) {o : HO} : Rel K κ ρ (upd H a o) s :=
  ⟨R.len, R.nd, fun k b u e1 e2 => (R.obj k b u e1 e2).keep R (Step.lay n) (upd_ne fun z => R.fresh n (z ▸ List.mem_of_getElem? e1))⟩
/-- a new changing thing -/
theorem Step.new (n : H a = none) {o : HO} : Step ρ H (ρ ++ [a]) (upd H a o) :=
  ⟨⟨[a], rfl, fun p hp => by rw [List.mem_singleton.mp hp]; exact n⟩, (Step.lay (ρ := ρ) n).keep, (Step.lay (ρ := ρ) n).live⟩
theorem Rel.new (R : Rel K κ ρ H s) (n : H a = none) {o : HO} {m : MO} (h : OR K κ (ρ ++ [a]) (upd H a o) a m) : Rel K κ (ρ ++ [a]) (upd H a o) (s ++ [m]) := by
  refine ⟨by simp [R.len], ?_, fun k b u e1 e2 => ?_⟩
  · rw [List.nodup_append]
    exact ⟨R.nd, by simp, fun x hx y hy e => R.fresh n (by rw [List.mem_singleton.mp hy] at e; exact e ▸ hx)⟩
  · by_cases hk : k < ρ.length
    · rw [List.getElem?_append_left hk] at e1
      rw [List.getElem?_append_left (by rw [← R.len]; exact hk)] at e2
      exact (R.obj k b u e1 e2).keep R (Step.new n) (upd_ne fun z => R.fresh n (z ▸ List.mem_of_getElem? e1))
    · rw [List.getElem?_append_right (Nat.le_of_not_lt hk)] at e1
      rw [List.getElem?_append_right (by rw [← R.len]; exact Nat.le_of_not_lt hk), ← R.len] at e2
      cases hz : k - ρ.length with
      | zero =>
        rw [hz] at e1 e2
        simp at e1 e2
        subst e1; subst e2
        exact h
      | succ z => rw [hz] at e1; simp at e1
/-- a changing thing is changed -/
theorem Step.put {n : Nat} (e : ρ[n]? = some a) {o : HO} : Step ρ H ρ (upd H a o) :=
  ⟨⟨[], by simp, by simp⟩, fun b u q hb => by rw [upd_ne fun z => hb (by rw [z]; exact List.mem_of_getElem? e)]; exact q, fun b q => by
    by_cases h : b = a
    · subst h; rw [upd_same]; simp
    · rw [upd_ne h]; exact q⟩
theorem Rel.put (R : Rel K κ ρ H s) {n : Nat} (e : ρ[n]? = some a) {o : HO} {m : MO} (h : OR K κ ρ (upd H a o) a m) : Rel K κ ρ (upd H a o) (s.set n m) := by
  refine ⟨by simp [R.len], R.nd, fun k b u e1 e2 => ?_⟩
  by_cases hk : k = n
  · subst hk
    rw [e] at e1; cases e1
    rw [List.getElem?_set_self (by rw [← R.len]; exact (List.getElem?_eq_some_iff.mp e).1)] at e2
    cases e2
    exact h
  · rw [List.getElem?_set_ne (Ne.symm hk)] at e2
    refine (R.obj k b u e1 e2).keep R (Step.put e) (upd_ne fun z => hk ?_)
    subst z
    have l1 := (List.getElem?_eq_some_iff.mp e1)
    have l2 := (List.getElem?_eq_some_iff.mp e)
    exact (List.getElem_inj R.nd).mp (l1.2.trans l2.2.symm)
/-- a list that stands apart is changed -/
theorem Kp.apart {xs ys : List V} (e : H a = some (.lst xs)) : Kp ρ H ρ (upd H a (.lst ys)) :=
  ⟨fun _ _ h => h, fun b zs h => by rw [upd_ne (ne_of h e (by intro z; cases z))]; exact h, fun b o u h => by rw [upd_ne (ne_of h e (by intro z; cases z))]; exact h, fun b o h => by rw [upd_ne (ne_of h e (by intro z; cases z))]; exact h⟩
theorem Rel.apart (R : Rel K κ ρ H s) {xs ys : List V} (e : H a = some (.lst xs)) (n : a ∉ ρ) : Rel K κ ρ (upd H a (.lst ys)) s :=
  ⟨R.len, R.nd, fun k b u e1 e2 => (R.obj k b u e1 e2).kp (Kp.apart e) (upd_ne fun z => n (z ▸ List.mem_of_getElem? e1))⟩
theorem Kp.add : Kp ρ H (ρ ++ [a]) H := ⟨fun n b h => by rw [List.getElem?_append_left (List.getElem?_eq_some_iff.mp h).1]; exact h, fun _ _ h => h, fun _ _ _ h => h, fun _ _ h => h⟩
/-- .. and told of -/
theorem Rel.add (R : Rel K κ ρ H s) {m : MO} (h : OR K κ ρ H a m) (n : a ∉ ρ) : Rel K κ (ρ ++ [a]) H (s ++ [m]) := by
  refine ⟨by simp [R.len], ?_, fun k b u e1 e2 => ?_⟩
  · rw [List.nodup_append]
    exact ⟨R.nd, by simp, fun x hx y hy e => n (by rw [List.mem_singleton.mp hy] at e; exact e ▸ hx)⟩
  · by_cases hk : k < ρ.length
    · rw [List.getElem?_append_left hk] at e1
      rw [List.getElem?_append_left (by rw [← R.len]; exact hk)] at e2
      exact (R.obj k b u e1 e2).kp Kp.add rfl
    · rw [List.getElem?_append_right (Nat.le_of_not_lt hk)] at e1
      rw [List.getElem?_append_right (by rw [← R.len]; exact Nat.le_of_not_lt hk), ← R.len] at e2
      cases hz : k - ρ.length with
      | zero =>
        rw [hz] at e1 e2
        simp at e1 e2
        subst e1; subst e2
        exact h.kp Kp.add rfl
      | succ z => rw [hz] at e1; simp at e1
theorem Rel.loc (R : Rel K κ ρ H s) {n : Nat} {v : V} {o : MO} (h : VR K κ ρ H (.loc n) v) (e : s[n]? = some o) : ∃ a, ρ[n]? = some a ∧ v = .ref a ∧ OR K κ ρ H a o := by
  simp only [VR] at h
  obtain ⟨a, e1, e2⟩ := h
  exact ⟨a, e1, e2, R.obj n a o e1 e⟩
theorem VR.last : VR K κ (ρ ++ [a]) H (.loc ρ.length) (.ref a) := by
  simp only [VR]
  exact ⟨a, by simp, rfl⟩
end
end Mid
/-! MidT: tuples, made: each has no dict of its own. -/
namespace Mid
open PySem PySem.Spec L2
open PyProof.Rows (IsTup)
section
variable {X : Cx} {pins : List (Addr × Obj)} {σ : L2.St} {H : Hp} {s : Shared} {es : List Expr} {pos : Pos} {t : TA}
/-- a new tuple, kept locked -/
theorem lay_tup {xs : List V} {its : List Value} {h' : Heap} {a : Addr} {tk : Nat} (I : Inv X pins σ H s) (k : ∀ b u, s.heap.get? b = some u → h'.get? b = some u) (hp : s.heap.objs.size ≤ a) (ha : h'.get? a = some (tupO its)) (hz : xs.length ≤ sizeLine) (r : Vals xs its) :
    Inv X pins σ (upd H a (.frz (tupO its) (.tup xs))) { s with heap := h', toks := tk } :=
  I.laid (t' := tk) k hp (show ObjOk X.prog X.w _ _ _ (.frz (tupO its) (.tup xs)) from ⟨ha, hz, its, r, ⟨_, ha, rfl, _, rfl⟩⟩)
def tTupD (t : TA) : TE := fun σ H Q => t σ H fun xs H1 => xs.length ≤ sizeLine ∧ ∀ p its, H1 p = none → Q (.ref p) (upd H1 p (.frz (tupO its) (.tup xs)))
theorem pe_tupD {x1} (h : PA X es t) : PE X (.Tuple es x1 pos) (tTupD t) :=
  ⟨fun pins s σ H Q I hq => wpAny_Tuple_spliced (thn (h.run pos pins s σ H _ I hq) fun us s1 ⟨xs, H1, I1, r, z, q⟩ => ⟨by rw [← r.length]; exact z,
    ⟨.ref s1.heap.objs.size, _, lay_tup (tk := s1.toks) (its := us) I1 (fun b u e => Heap.get?_push_of_some _ e) (Nat.le_refl _) (Heap.get?_push_size _ rfl) z r, rfl, q _ us (I1.hok.fresh (Nat.le_refl _))⟩⟩)⟩
/-- tuple(xs) -/
theorem call_tupleD : CallR X (.type "tuple") (fun xs H Q => ∃ p ys, xs = [.ref p] ∧ ((SqL X.K H p ys ∧ ∀ l its, H l = none → Q (.ref l) (upd H l (.frz (tupO its) (.tup ys)))) ∨ (SqT X.K H p ys ∧ Q (.ref p) H))) := by
  intro pins s σ H xs us Q I r h
  obtain ⟨p, ys, rfl, h⟩ := h; obtain ⟨u, rfl, rx⟩ := vals1 r; cases rx
  rcases h with ⟨hq, q⟩ | ⟨hq, q⟩
  · obtain ⟨its, r', pl, hz⟩ := I.list hq; have hlen := r'.length
    refine call_tuple_list pl.isList (fun h' kp => ?_) (by simp only [List.size_toArray]; omega)
    have I1 : Inv X pins σ H { s with heap := h' } := I.kept (t' := s.toks) kp
    exact ⟨.ref h'.objs.size, _, lay_tup (s := { s with heap := h' }) (tk := s.toks) (its := its) I1 (fun b o e => Heap.get?_push_of_some _ e) (Nat.le_refl _) (Heap.get?_push_size _ rfl) hz r', rfl, q _ its (I1.hok.fresh (Nat.le_refl _))⟩
  · obtain ⟨its, r', pl, hz⟩ := I.tuple hq; exact call_tuple_same pl ⟨.ref p, H, I, rfl, q⟩
/-- t[lo:hi] -/
def rSlD (K : PySem.W.Frag) : V → Option Int → Option Int → Hp → VK → Prop := fun x lo hi H Q => ∃ a xs, x = .ref a ∧ SqT K H a xs ∧
  (HT.sIx xs.length 0 lo = 0 ∧ HT.sIx xs.length xs.length hi = xs.length → Q (.ref a) H) ∧ (¬ (HT.sIx xs.length 0 lo = 0 ∧ HT.sIx xs.length xs.length hi = xs.length) → ∀ p its, H p = none → Q (.ref p) (upd H p (.frz (tupO its) (.tup (cutV xs lo hi)))))
theorem sl_tupD : SlR X (rSlD X.K) := by
  intro pins s σ H x v vl vu lo hi sl Q I rx hs pl pu h
  obtain ⟨a, xs, rfl, hx, q1, q2⟩ := h; cases rx; obtain ⟨its, r, ht, hz⟩ := I.tuple hx
  have hlen : its.toArray.size = xs.length := by rw [List.size_toArray]; exact r.length.symm
  refine ⟨"tuple", _, PyProof.Rows.slot_tuple_getitem.lookup, ht.typeIs, ?_⟩
  by_cases hw : HT.sIx xs.length 0 lo = 0 ∧ HT.sIx xs.length xs.length hi = xs.length
  · exact getItem_tuple_whole ht hs pl pu (by rw [hlen]; exact hw) ⟨.ref a, H, I, rfl, q1 hw⟩
  · refine HT.getItem_tuple_cut ht hs pl pu (by rw [hlen]; exact hw) ?_ (by rw [hlen]; exact hz); rw [hlen]
    exact ⟨.ref s.heap.objs.size, _, lay_tup (tk := s.toks) (xs := cutV xs lo hi) I (fun b ob q => Heap.get?_push_of_some _ q) (Nat.le_refl _) (Heap.get?_push_size _ rfl) (Nat.le_trans (cutV_length xs lo hi) hz) ((r.drop (HT.sIx xs.length 0 lo)).take (HT.sIx xs.length xs.length hi - HT.sIx xs.length 0 lo)), rfl, q2 hw _ _ (I.hok.fresh (Nat.le_refl _))⟩
/-- t + u -/
def rCatD (K : PySem.W.Frag) : R2 := fun x y H Q => ∃ a b xs ys, x = .ref a ∧ y = .ref b ∧ SqT K H a xs ∧ SqT K H b ys ∧ xs.length + ys.length ≤ sizeLine ∧
  (xs = [] → Q (.ref b) H) ∧ (xs ≠ [] → ys = [] → Q (.ref a) H) ∧ (xs ≠ [] → ys ≠ [] → ∀ p its, H p = none → Q (.ref p) (upd H p (.frz (tupO its) (.tup (xs ++ ys)))))
theorem op_catD : OpR X (binaryOp .Add) (rCatD X.K) := by
  intro pins s σ H x y v u Q I rx ry h
  obtain ⟨a, b, xs, ys, rfl, rfl, ha, hb, hz, q0, q1, q2⟩ := h; cases rx; cases ry
  obtain ⟨its, r1, p1, _⟩ := I.tuple ha; obtain ⟨its2, r2, p2, _⟩ := I.tuple hb
  by_cases hx : xs = []
  · subst hx; cases r1; exact cat_tup0 p1 p2 ⟨.ref b, H, I, rfl, q0 rfl⟩
  · refine HT.cat_tup p1 p2 (fun z => hx (r1.nil_iff.mp z)) (fun z => ⟨.ref a, H, I, rfl, q1 hx (r2.nil_iff.mp z)⟩) (fun z => ?_) (by rw [← r1.length, ← r2.length]; exact hz)
    exact ⟨.ref s.heap.objs.size, _, lay_tup (tk := s.toks) (xs := xs ++ ys) I (fun b ob q => Heap.get?_push_of_some _ q) (Nat.le_refl _) (Heap.get?_push_size _ rfl) (by rw [List.length_append]; exact hz) (r1.append r2), rfl, q2 hx (fun w => z (r2.nil_iff.mpr w)) _ _ (I.hok.fresh (Nat.le_refl _))⟩
/-- a tuple's own object -/
theorem SqD.plain {a : Addr} {xs : List V} (I : Inv X pins σ H s) (h : SqD X.K H a xs) : ∃ its : List Value, Vals xs its ∧ PySem.PlainSeq "tuple" s.heap a its.toArray ∧ xs.length ≤ sizeLine := by
  rcases h with ⟨its0, h⟩ | ⟨o, its, n, hk, hc, hd, hs, hz, r⟩
  · obtain ⟨g, z, its, r, o, ho, _, n, hd⟩ := I.hok a _ h
    rw [g] at ho; cases ho
    have e : its0.toArray = its.toArray := by injection hd
    exact ⟨its, r, ⟨_, _, g, rfl, rfl, by rw [← e]; rfl⟩, z⟩
  · exact ⟨its.toList, r, ⟨o, n, I.kIn a o hk, hc, hd, by simpa using hs⟩, by rw [r.length, Array.length_toList]; exact hz⟩
/-- dict(t) of a tuple of pairs -/
theorem call_dictT (hcalm : X.calm = true) : CallR X (.type "dict") (fun xs H Q => ∃ (a : Addr) (ps : List Addr) (kvs : List (Key × V)), xs = [.ref a] ∧ SqD X.K H a (ps.map V.ref) ∧ Paired (fun p kv => SqT X.K H p [kV kv.1, kv.2]) ps kvs ∧
    ∀ p, H p = none → Q (.ref p) (upd H p (.dK (mergeK [] kvs)))) := by
  intro pins s σ H xs us Q I r q
  obtain ⟨a, ps, kvs, rfl, hq, hp, q⟩ := q; obtain ⟨u, rfl, rx⟩ := vals1 r; cases rx
  obtain ⟨its, rv, pl, hz⟩ := SqD.plain I hq
  obtain rfl := refs_at rv
  rw [List.length_map] at hz
  obtain ⟨prs, rel, hl, hpr⟩ := pairs_of I hp
  have ex : ∀ j : Nat, ∃ u : Value, ∀ q : Key × Value, prs[j]? = some q → ∃ b, ps[j]? = some b ∧ IsTup s.heap b #[u, q.2] ∧ keyIs q.1 u = true := fun j => by
    cases e : prs[j]? with
    | none => exact ⟨.none, fun q h => nomatch h⟩
    | some q0 => obtain ⟨b, u, h1, h2, h3⟩ := hpr j q0 e; exact ⟨u, fun q h => by cases h; exact ⟨b, h1, h2, h3⟩⟩
  obtain ⟨f, hf⟩ := Classical.axiomOfChoice ex
  have pat : ∀ j : Nat, (prs.zipIdx.map fun z => (f z.2, z.1.2))[j]? = (prs[j]?).map fun q => (f j, q.2) := fun j => by rw [List.getElem?_map, List.getElem?_zipIdx]; cases prs[j]? <;> simp
  have plen : (prs.zipIdx.map fun z => (f z.2, z.1.2)).length = ps.length := by rw [List.length_map, List.length_zipIdx, hl]
  generalize prs.zipIdx.map (fun z => (f z.2, z.1.2)) = pv at pat plen
  have P := PySem.PairArg.tuple (prog := X.prog) (w := X.w) a (ps.map Value.ref).toArray (fun j => ps.getD j 0) pv
  have ok : PySem.PlainSeq "tuple" s.heap a (ps.map Value.ref).toArray ∧ PySem.PairItems s.heap (ps.map Value.ref).toArray (fun j => ps.getD j 0) pv := ⟨pl, by rw [plen]; simp, fun j k v e => by
    rw [pat] at e
    cases e1 : prs[j]? with
    | none => rw [e1] at e; cases e
    | some q0 =>
      rw [e1] at e; obtain ⟨rfl, rfl⟩ := Prod.mk.inj (Option.some.inj e)
      obtain ⟨b, h1, h2, h3⟩ := hf j q0 e1
      have hb : ps.getD j 0 = b := by rw [List.getD_eq_getElem?_getD, h1]; rfl
      exact ⟨by show _ = some (Value.ref (ps.getD j 0)); rw [hb]; simp [h1], .inl (by show s.heap.IsTuple (ps.getD j 0) _; rw [hb]; exact h2)⟩⟩
  have hv : PySem.PairsHave (mixKind X.prog X.w) pv.length (PySem.PairRel pv) prs := ⟨hl.trans plen.symm, fun i key v e => by
    rw [show PySem.PairRel pv i key v = (pv[i]? = some (key, v)) from rfl, pat] at e
    cases e1 : prs[i]? with
    | none => rw [e1] at e; cases e
    | some q0 =>
      rw [e1] at e; obtain ⟨rfl, rfl⟩ := Prod.mk.inj (Option.some.inj e)
      obtain ⟨b, _, _, h3⟩ := hf i q0 e1
      exact ⟨q0.1, rfl, h3⟩⟩
  refine PySem.call_dict_pairs (knd := mixKind X.prog X.w) P (I.ok.hd hcalm) ok hv (by rw [plen]; exact hz) fun h' tk hd' k => ?_
  have hm : (s.heap.objs.size == sysModules) = false := beq_eq_false_iff_ne.mpr (Nat.ne_of_gt I.big)
  have hlen : (mergeK [] kvs).length ≤ sizeLine := Nat.le_trans (length_mergeK kvs []) (by rw [List.length_nil, Nat.zero_add, rel.length, hl]; exact hz)
  exact ⟨.ref s.heap.objs.size, upd H s.heap.objs.size (.dK (mergeK [] kvs)), I.laid (t' := tk) (fun b o e => k b o (fun h => nomatch h) e) (Nat.le_refl _) (show ObjOk X.prog X.w _ _ _ (.dK (mergeK [] kvs)) from ⟨hlen, hm, merged [] prs, KV.merge rel .nil, hd'⟩), rfl, q _ (I.hok.fresh (Nat.le_refl _))⟩
end
/-! t * k -/
theorem tuple_mul1 (l : Addr) (items : Array Value) (n : Nat) (dd : Option Addr) (sl : Array (Option Value)) (u : Tok) :
    Meets (Builtin.«tuple.__mul__» ⟨[.ref l, .int 1 u], []⟩) (fun _ R s => s.heap.get? l = some { cls := .type "tuple", dict := dd, data := .seq items n, slots := sl } ∧
      R (.ok (.ret (Value.ref l))) s) :=
  .of_wp fun prog w A R s h => by
    obtain ⟨hp, g, d, tk, os⟩ := s
    obtain ⟨hl, h⟩ := h
    have f1 := AutoSeq1.idx_int
    wp_walk using wpAny_loadPart' hl
    exact ⟨_, rfl, h⟩
theorem tuple_mul0 (l : Addr) (items : Array Value) (n : Nat) (dd : Option Addr) (sl : Array (Option Value)) (x : Int) (u : Tok) (c0 : (decide (x < -(2 ^ 63)) || decide (x ≥ 2 ^ 63)) = false) (c1 : (items.isEmpty || x == 1) = false) (c2 : (decide (x ≤ 0) || items.isEmpty) = true) :
    Meets (Builtin.«tuple.__mul__» ⟨[.ref l, .int x u], []⟩) (fun _ R s => s.heap.get? l = some { cls := .type "tuple", dict := dd, data := .seq items n, slots := sl } ∧
      R (.ok (.ret (Value.ref s.heap.objs.size))) { s with heap := s.heap.push { cls := Value.type "tuple", data := Data.seq #[] }, toks := s.toks }) :=
  .of_wp fun prog w A R s h => by
    obtain ⟨hp, g, d, tk, os⟩ := s
    obtain ⟨hl, h⟩ := h
    have f1 := AutoSeq1.idx_int
    wp_walk using wpAny_loadPart' hl
    repeat (first
      | (refine wpAny_ite_false (decide_eq_false (by rw [c0]; exact Bool.false_ne_true)) ?_; wp_walk using wpAny_loadPart' hl)
      | (refine wpAny_ite_false (decide_eq_false (by rw [c1]; exact Bool.false_ne_true)) ?_; wp_walk using wpAny_loadPart' hl)
      | (refine wpAny_ite_true (decide_eq_true (by rw [c2])) ?_; wp_walk using wpAny_loadPart' hl))
    exact ⟨_, rfl, h⟩
section
variable {X : Cx}
def rRepTD (K : PySem.W.Frag) : R2 := fun x y H Q => ∃ l k xs, x = .ref l ∧ y = .int k ∧ SqD K H l xs ∧ xs ≠ [] ∧ -1000 ≤ k ∧ k ≤ 1000 ∧ xs.length ≤ 1000 ∧
  (k = 1 → Q (.ref l) H) ∧ (k ≠ 1 → ∀ p its, H p = none → Q (.ref p) (upd H p (.frz (tupO its) (.tup (List.replicate k.toNat xs).flatten))))
theorem op_repTD : OpR X (binaryOp .Mult) (rRepTD X.K) := by
  intro pins s σ H x y v u Q I rx ry h
  obtain ⟨l, k, xs, rfl, rfl, hT, hne, h1, h2, hz, q1, q2⟩ := h
  cases rx
  obtain ⟨t, rfl⟩ := ry
  obtain ⟨its, r, ⟨⟨cls, dd, data, sl⟩, ho, hc, n, hd⟩, hs⟩ := I.tuple hT.tup
  simp only at hc hd
  subst hc hd
  have hle : its.length = xs.length := r.length.symm
  have hn : its ≠ [] := fun e => hne (by
    rw [e] at hle
    exact List.eq_nil_of_length_eq_zero hle.symm)
  have hi : its.toArray.isEmpty = false := by
    cases its with
    | nil => exact absurd rfl hn
    | cons a b => rfl
  have hm : ((its.toArray.size : Nat) : Int) * k ≤ 1000000 := by
    rw [List.size_toArray, hle]
    have a1 : ((xs.length : Nat) : Int) * k ≤ ((xs.length : Nat) : Int) * 1000 := Int.mul_le_mul_of_nonneg_left h2 (by omega)
    omega
  have flen : (List.replicate k.toNat its).flatten.length ≤ sizeLine := by
    rw [PyProof.Rows.lm_len_rep_flat, hle, sizeLine_eq]
    have a1 : k.toNat * xs.length ≤ 1000 * 1000 := Nat.mul_le_mul (by omega) hz
    omega
  have c0 : (decide (k < -(2 ^ 63)) || decide (k ≥ 2 ^ 63)) = false := by
    rw [decide_eq_false (by omega), decide_eq_false (by omega)] <;> rfl
  have fresh : ∀ its', its' = (List.replicate k.toNat its).flatten → k ≠ 1 → wpAny (model X.prog X.w) X.A (pure (Value.ref s.heap.objs.size)) (EP X pins σ Q) X.xe { s with heap := s.heap.push { cls := Value.type "tuple", data := Data.seq its'.toArray }, toks := s.toks } := fun its' e hk => by
    subst e
    exact wpAny_pure ⟨.ref s.heap.objs.size, _, lay_tup (tk := s.toks) (xs := (List.replicate k.toNat xs).flatten) I (fun b ob q => Heap.get?_push_of_some _ q) (Nat.le_refl _) (Heap.get?_push_size _ rfl)
      (by rw [PyProof.Rows.lm_len_rep_flat, sizeLine_eq]; have a1 : k.toNat * xs.length ≤ 1000 * 1000 := Nat.mul_le_mul (by omega) hz; omega) (r.rep k.toNat), rfl, q2 hk _ _ (I.hok.fresh (Nat.le_refl _))⟩
  refine wpAny_binaryOp_repeat_ref (T := "tuple") (U := "int") (by decide) ⟨_, ho, rfl⟩ (fun s' => typeIs_int s' k t) noFill_tuple_mul F.fills_int_mul F.slot_int_rmul repeat_tuple F.slot_int_index.lookup
    (call_meets F.slot_int_rmul (typeIs_int s k t) F.entry_int_rmul (F.args_int_rmul_2 _ _) (int_rmul_tuple k t l its.toArray n dd sl) ⟨ho, rfl, ⟨_, ho, rfl⟩, ?_⟩)
  by_cases hk1 : k = 1
  · subst hk1
    exact call_meets F.slot_tuple_mul ⟨_, ho, rfl⟩ F.entry_tuple_mul (F.args_tuple_mul_2 _ _) (tuple_mul1 l its.toArray n dd sl t) ⟨ho, .ref l, H, I, rfl, q1 rfl⟩
  · have c1 : (its.toArray.isEmpty || k == 1) = false := by
      rw [hi, Bool.false_or]
      exact beq_eq_false_iff_ne.mpr hk1
    by_cases hk0 : k ≤ 0
    · have hz0 : k.toNat = 0 := by omega
      refine call_meets F.slot_tuple_mul ⟨_, ho, rfl⟩ F.entry_tuple_mul (F.args_tuple_mul_2 _ _) (tuple_mul0 l its.toArray n dd sl k t c0 c1 (by rw [decide_eq_true hk0]; rfl)) ⟨ho, ?_⟩
      exact ⟨.ref s.heap.objs.size, _, lay_tup (tk := s.toks) (xs := (List.replicate k.toNat xs).flatten) I (fun b ob q => Heap.get?_push_of_some _ q) (Nat.le_refl _) (Heap.get?_push_size _ rfl)
        (by rw [hz0]; exact Nat.zero_le _) (its := []) (by rw [hz0]; exact .nil), rfl, q2 hk1 _ _ (I.hok.fresh (Nat.le_refl _))⟩
    · have c2 : (decide (k ≤ 0) || its.toArray.isEmpty) = false := by
        rw [hi, Bool.or_false]
        exact decide_eq_false hk0
      have c4 : Builtin.Tuple.tupleTooMany (((its.toArray.size : Nat) : Int) * k) = false := by
        unfold Builtin.Tuple.tupleTooMany
        rw [sizeLine_eq]
        exact decide_eq_false (by omega)
      refine call_meets F.slot_tuple_mul ⟨_, ho, rfl⟩ F.entry_tuple_mul (F.args_tuple_mul_2 _ _) (tuple_mulW l its.toArray n dd sl k t c0 c1 c2 (by omega) c4 (by rw [size_rep, List.size_toArray]; exact flen)) ⟨ho, ?_⟩
      rw [size_rep]
      exact ⟨.ref s.heap.objs.size, _, lay_tup (tk := s.toks) (xs := (List.replicate k.toNat xs).flatten) I (fun b ob q => Heap.get?_push_of_some _ q) (Nat.le_refl _) (Heap.get?_push_size _ rfl)
        (by rw [PyProof.Rows.lm_len_rep_flat, sizeLine_eq]; have a1 : k.toNat * xs.length ≤ 1000 * 1000 := Nat.mul_le_mul (by omega) hz; omega) (r.rep k.toNat), rfl, q2 hk1 _ _ (I.hok.fresh (Nat.le_refl _))⟩
end
end Mid
/-! Mid2: readings by the plain model; expressions, statements, loops, comprehensions, defs. -/
namespace Mid
open PySem PySem.Spec L2 Classical

section
variable (K : PySem.W.Frag) (κ : Kap)
/-- how an exception lies -/
def XR (ρ : List Addr) (H : Hp) (e : Xv) (cls : Value) (dx : Option Addr) : Prop :=
  cls = .ref (κ e.cls) ∧ match e.fs with
    | none => dx = none
    | some fs => ∃ d vs, dx = some d ∧ H d = some (.xd vs) ∧ vs.map (·.1) = fs.map (·.1) ∧ VRs K κ ρ H (fs.map (·.2)) (vs.map (·.2))
/-- what an end leaves -/
def Fin {α : Type} (W : WX) (ρ : List Addr) (σ : L2.St) (H : Hp) (r : Rm α) (Q : α → List Addr → Mst → Hp → Prop) : Prop := match r with
  | .ok a s => ∀ ρ' H', Step ρ H ρ' H' → Rel K κ ρ' H' s → Q a ρ' s H'
  | .er e s => ∀ ρ' H' cls dx, Step ρ H ρ' H' → Rel K κ ρ' H' s → XR K κ ρ' H' e cls dx → W cls dx σ H'
  | .bad => False
def rd (W : WX) (m : ME) : TE := fun σ H Q => ∃ ρ σd s, Rel K κ ρ H s ∧ ER K κ ρ H σd σ ∧ Fin K κ W ρ σ H (m σd s) fun d ρ' _ H' => ∀ v, VR K κ ρ' H' d v → Q v H'
def rdT (W : WX) (m : MT) : TT := fun σ H Q => ∃ ρ σd s, Rel K κ ρ H s ∧ ER K κ ρ H σd σ ∧ Fin K κ W ρ σ H (m σd s) fun c _ _ H' => Q c H'
def rdA (W : WX) (m : MA) : TA := fun σ H Q => ∃ ρ σd s, Rel K κ ρ H s ∧ ER K κ ρ H σd σ ∧ Fin K κ W ρ σ H (m σd s) fun ds ρ' _ H' => ∀ vs, VRs K κ ρ' H' ds vs → Q vs H'
def FinS (W : WX) (D : Ends) (ρ : List Addr) (H : Hp) (r : Sm) : Prop := match r with
  | .nx σd s => ∀ ρ' H' σ', Step ρ H ρ' H' → Rel K κ ρ' H' s → ER K κ ρ' H' σd σ' → D.nx σ' H'
  | .ct σd s => ∀ ρ' H' σ', Step ρ H ρ' H' → Rel K κ ρ' H' s → ER K κ ρ' H' σd σ' → D.ct σ' H'
  | .bk σd s => ∀ ρ' H' σ', Step ρ H ρ' H' → Rel K κ ρ' H' s → ER K κ ρ' H' σd σ' → D.bk σ' H'
  | .rt d s => ∀ ρ' H' v, Step ρ H ρ' H' → Rel K κ ρ' H' s → VR K κ ρ' H' d v → D.rt v H'
  | .er e σd s => ∀ ρ' H' σ' cls dx, Step ρ H ρ' H' → Rel K κ ρ' H' s → ER K κ ρ' H' σd σ' → XR K κ ρ' H' e cls dx → W cls dx σ' H'
  | .bad => False
def rdS (W : WX) (m : MS) : TS := fun D σ H => ∃ ρ σd s, Rel K κ ρ H s ∧ ER K κ ρ H σd σ ∧ FinS K κ W D ρ H (m σd s)
/-- a def's promise: it does what F does -/
def spF (n : Nat) (F : MF) : Sp := fun vs H Q E => vs.length = n ∧ ∃ ρ ds s, Rel K κ ρ H s ∧ VRs K κ ρ H ds vs ∧ Fin K κ (fun c d _ H' => E c d H') ρ [] H (F ds s) fun d ρ' _ H' => ∀ v, VR K κ ρ' H' d v → Q v H'
end

section
variable {K : PySem.W.Frag} {κ : Kap} {W : WX} {ρ ρ1 : List Addr} {σ : L2.St} {H H1 : Hp} {s : Mst} {α β : Type}
theorem Fin.mono {r : Rm α} {Q Q' : α → List Addr → Mst → Hp → Prop} (h : Fin K κ W ρ σ H r Q) (f : ∀ a ρ' s' H', Step ρ H ρ' H' → Rel K κ ρ' H' s' → Q a ρ' s' H' → Q' a ρ' s' H') : Fin K κ W ρ σ H r Q' := by
  cases r with
  | ok a s => exact fun ρ' H' x R => f a ρ' s H' x R (h ρ' H' x R)
  | er e s => exact h
  | bad => exact h
theorem Fin.step {r : Rm α} {Q : α → List Addr → Mst → Hp → Prop} (h : Fin K κ W ρ σ H r Q) (x : Step ρ H ρ1 H1) : Fin K κ W ρ1 σ H1 r Q := by
  cases r with
  | ok a s => exact fun ρ' H' y R => h ρ' H' (x.trans y) R
  | er e s => exact fun ρ' H' cls dx y R => h ρ' H' cls dx (x.trans y) R
  | bad => exact h
theorem Fin.bind {r : Rm α} {f : α → Mst → Rm β} {Q : β → List Addr → Mst → Hp → Prop} (h : Fin K κ W ρ σ H (r.bind f) Q) : Fin K κ W ρ σ H r fun a ρ' s' H' => Fin K κ W ρ' σ H' (f a s') Q := by
  cases r with
  | ok a s => exact fun ρ' H' x R => Fin.step h x
  | er e s => exact h
  | bad => exact h
theorem FinS.step {D : Ends} {r : Sm} (h : FinS K κ W D ρ H r) (x : Step ρ H ρ1 H1) : FinS K κ W D ρ1 H1 r := by
  cases r with
  | nx σd s => exact fun ρ' H' σ' y R => h ρ' H' σ' (x.trans y) R
  | ct σd s => exact fun ρ' H' σ' y R => h ρ' H' σ' (x.trans y) R
  | bk σd s => exact fun ρ' H' σ' y R => h ρ' H' σ' (x.trans y) R
  | rt d s => exact fun ρ' H' σ' y R => h ρ' H' σ' (x.trans y) R
  | er e σd s => exact fun ρ' H' σ' c d y R => h ρ' H' σ' c d (x.trans y) R
  | bad => exact h
/-- a statement that begins with an expression -/
theorem FinS.st {D : Ends} {r : Rm α} {σd : Men} {f : α → Mst → Sm} (h : FinS K κ W D ρ H (r.st σd f)) (R : Rel K κ ρ H s) (hE : ER K κ ρ H σd σ) : Fin K κ W ρ σ H r fun a ρ' s' H' => FinS K κ W D ρ' H' (f a s') := by
  cases r with
  | ok a s => exact fun ρ' H' x R => FinS.step h x
  | er e s => exact fun ρ' H' cls dx x R' q => h ρ' H' σ cls dx x R' (hE.later R x) q
  | bad => exact h
end

/-! ### the rules -/
section
variable {X : Cx} {κ : Kap} {W : WX}
abbrev LE (X : Cx) (κ : Kap) (W : WX) (e : Expr) (m : ME) : Prop := PE X e (rd X.K κ W m)
abbrev LT (X : Cx) (κ : Kap) (W : WX) (e : Expr) (m : MT) : Prop := PT X e (rdT X.K κ W m)
abbrev LA (X : Cx) (κ : Kap) (W : WX) (es : List Expr) (ms : List ME) : Prop := PA X es (rdA X.K κ W (mArgs ms))
abbrev LS (X : Cx) (κ : Kap) (W : WX) (st : Stmt) (m : MS) : Prop := PS X st (rdS X.K κ W m)
abbrev LSs (X : Cx) (κ : Kap) (W : WX) (st : List Stmt) (m : MS) : Prop := PSs X st (rdS X.K κ W m)
theorem PE.by {e : Expr} {t t' : TE} (h : PE X e t) (f : ∀ σ H Q, t' σ H Q → t σ H Q) : PE X e t' := ⟨fun pins s σ H Q I q => h.run pins s σ H Q I (f σ H Q q)⟩
theorem PT.by {e : Expr} {t t' : TT} (h : PT X e t) (f : ∀ σ H Q, t' σ H Q → t σ H Q) : PT X e t' := ⟨fun pins s σ H Q I q => h.run pins s σ H Q I (f σ H Q q)⟩
theorem PA.by {e : List Expr} {t t' : TA} (h : PA X e t) (f : ∀ σ H Q, t' σ H Q → t σ H Q) : PA X e t' := ⟨fun ps pins s σ H Q I q => h.run ps pins s σ H Q I (f σ H Q q)⟩
theorem PS.by {e : Stmt} {t t' : TS} (h : PS X e t) (f : ∀ D σ H, t' D σ H → t D σ H) : PS X e t' := ⟨fun pins s σ H D I q => h.run pins s σ H D I (f D σ H q)⟩
theorem PSs.by {e : List Stmt} {t t' : TS} (h : PSs X e t) (f : ∀ D σ H, t' D σ H → t D σ H) : PSs X e t' := ⟨fun pins s σ H D I q => h.run pins s σ H D I (f D σ H q)⟩

variable {pos : Pos} {a b c e : Expr} {ma mb mc me : ME} {ta tb : MT} {es : List Expr} {ms : List ME}
/-! names and constants -/
theorem le_var (i : Nat) {x : Str} (hN : X.N[i]? = some x := by rfl) (hv : Vis X.env.scope x := by first | exact Or.inl rfl | exact Or.inr (Or.inl rfl) | exact Or.inr (Or.inr rfl)) (hd : (x == ("__debug__" : Str)) = false := by decide)
    (hcd : (x == ("__classdict__" : Str)) = false := by decide) : LE X κ W (.Name x pos) (mVar i) := by
  refine PE.by (pe_var hN hv hd hcd) fun σ H Q ⟨ρ, σd, s, R, hE, h⟩ => ?_
  unfold mVar at h
  cases q : σd[i]? with
  | none => rw [q] at h; exact h.elim
  | some o =>
    cases o with
    | none => rw [q] at h; exact h.elim
    | some d =>
      rw [q] at h
      obtain ⟨v, e, r⟩ := hE.at_ i d q
      exact ⟨v, e, h ρ H Step.refl R v r⟩
theorem le_c {d : Dv} {v : V} (h : PE X e (tC v)) (hd : ∀ (ρ : List Addr) (H : Hp), VR X.K κ ρ H d v) : LE X κ W e (mC d) :=
  PE.by h fun σ H Q ⟨ρ, σd, s, R, hE, h⟩ => h ρ H Step.refl R v (hd ρ H)
theorem le_int {i : Int} {j} : LE X κ W (.Constant (.int i) j pos) (mC (.int i)) := le_c pe_int fun _ _ => by simp only [VR]
theorem le_bl {b : Bool} {j} : LE X κ W (.Constant (.bool b) j pos) (mC (.bl b)) := le_c pe_bl fun _ _ => by simp only [VR]
theorem le_non {j} : LE X κ W (.Constant .none j pos) (mC .non) := le_c pe_non fun _ _ => by simp only [VR]
theorem le_str {x : Str} {j} : LE X κ W (.Constant (.str x) j pos) (mC (.str x)) := le_c pe_str fun _ _ => by simp only [VR]

/-! operators by values -/
def OpL (X : Cx) (κ : Kap) (r : R2) (f : Dv → Dv → Mst → Rm Dv) : Prop := ∀ W ρ σ H s x y dx dy Q, Rel X.K κ ρ H s → VR X.K κ ρ H dx x → VR X.K κ ρ H dy y → Fin X.K κ W ρ σ H (f dx dy s) (fun d ρ' _ H' => ∀ v, VR X.K κ ρ' H' d v → Q v H') → r x y H Q
def UnL (X : Cx) (κ : Kap) (r : V → Hp → VK → Prop) (f : Dv → Mst → Rm Dv) : Prop := ∀ W ρ σ H s x dx Q, Rel X.K κ ρ H s → VR X.K κ ρ H dx x → Fin X.K κ W ρ σ H (f dx s) (fun d ρ' _ H' => ∀ v, VR X.K κ ρ' H' d v → Q v H') → r x H Q
theorem rd_op {r : R2} {f : Dv → Dv → Mst → Rm Dv} (L : OpL X κ r f) {σ : L2.St} {H : Hp} {Q : VK} (h : rd X.K κ W (mOp f ma mb) σ H Q) : tOp r (rd X.K κ W ma) (rd X.K κ W mb) σ H Q := by
  obtain ⟨ρ, σd, s, R, hE, h⟩ := h
  exact ⟨ρ, σd, s, R, hE, (Fin.bind h).mono fun dx ρ1 s1 H1 x1 R1 h1 vx hx => ⟨ρ1, σd, s1, R1, hE.later R x1, (Fin.bind h1).mono fun dy ρ2 s2 H2 x2 R2 h2 vy hy => L W ρ2 σ H2 s2 vx vy dx dy Q R2 (VR.later R1 x2 _ _ hx) hy h2⟩⟩
theorem le_op {op : Operator} {r : R2} {f : Dv → Dv → Mst → Rm Dv} (ho : OpR X (binaryOp op) r) (L : OpL X κ r f) (ha : LE X κ W a ma) (hb : LE X κ W b mb) : LE X κ W (.BinOp a op b pos) (mOp f ma mb) :=
  PE.by (pe_op ho ha hb) fun σ H Q h => rd_op L h
theorem le_cmp {op : CmpOp} {r : R2} {f : Dv → Dv → Mst → Rm Dv} (ho : OpR X (compareOp op) r) (L : OpL X κ r f) (ha : LE X κ W a ma) (hb : LE X κ W b mb) (hm : behindInMarks op b = false := by first | exact nomark _ | rfl) : LE X κ W (.Compare a [op] [b] pos) (mOp f ma mb) :=
  PE.by (pe_cmpR ho ha hb hm) fun σ H Q h => rd_op L h
theorem rd_chain {r r' : R2} {f g : Dv → Dv → Mst → Rm Dv} (L : OpL X κ r f) (L' : OpL X κ r' g) {mc : ME} {σ : L2.St} {H : Hp} {Q : VK} (h : rd X.K κ W (mChain f g ma mb mc) σ H Q) : tChain r r' (rd X.K κ W ma) (rd X.K κ W mb) (rd X.K κ W mc) σ H Q := by
  obtain ⟨ρ, σd, s, R, hE, h⟩ := h
  exact ⟨ρ, σd, s, R, hE, (Fin.bind h).mono fun dx ρ1 s1 H1 x1 R1 h1 vx hx => ⟨ρ1, σd, s1, R1, hE.later R x1, (Fin.bind h1).mono fun dy ρ2 s2 H2 x2 R2 h2 vy hy => L W ρ2 σ H2 s2 vx vy dx dy _ R2 (VR.later R1 x2 _ _ hx) hy ((Fin.bind h2).mono fun z ρ3 s3 H3 x3 R3 h3 v hv => by
    cases z with
    | bl c =>
      refine ⟨c, by simpa only [VR] using hv, ?_⟩
      cases c with
      | false => exact h3 ρ3 H3 Step.refl R3 _ (by simp only [VR])
      | true => exact ⟨ρ3, σd, s3, R3, ((hE.later R x1).later R1 x2).later R2 x3, (Fin.bind h3).mono fun dw ρ4 s4 H4 x4 R4 h4 vw hw => L' W ρ4 σ H4 s4 vy vw dy dw Q R4 (VR.later R3 x4 _ _ (VR.later R2 x3 _ _ hy)) hw h4⟩
    | _ => exact h3.elim)⟩⟩
theorem le_chain {op op' : CmpOp} {r r' : R2} {f g : Dv → Dv → Mst → Rm Dv} {c : Expr} {mc : ME} (ho : OpR X (compareOp op) r) (L : OpL X κ r f) (ho' : OpR X (compareOp op') r') (L' : OpL X κ r' g) (ha : LE X κ W a ma) (hb : LE X κ W b mb) (hc : LE X κ W c mc) (hm : lastMarks [op, op'] [b, c] = false := by with_unfolding_all rfl) : LE X κ W (.Compare a [op, op'] [b, c] pos) (mChain f g ma mb mc) :=
  PE.by (pe_chain ho ho' ha hb hc hm) fun σ H Q h => rd_chain L L' h
theorem le_un {op : UnaryOp} {r : V → Hp → VK → Prop} {f : Dv → Mst → Rm Dv} (ho : UnR X (unaryOp op) r) (L : UnL X κ r f) (ha : LE X κ W a ma) : LE X κ W (.UnaryOp op a pos) (mUn f ma) :=
  PE.by (pe_un ho ha) fun σ H Q ⟨ρ, σd, s, R, hE, h⟩ => ⟨ρ, σd, s, R, hE, (Fin.bind h).mono fun dx ρ1 s1 H1 x1 R1 h1 vx hx => L W ρ1 σ H1 s1 vx dx Q R1 hx h1⟩
theorem le_ix {r : R2} {f : Dv → Dv → Mst → Rm Dv} (ho : IxR X r) (L : OpL X κ r f) (ha : LE X κ W a ma) (hb : LE X κ W b mb) (hs : PlainIx b) : LE X κ W (.Subscript a b pos) (mOp f ma mb) :=
  PE.by (pe_ix ho ha hb hs) fun σ H Q h => rd_op L h

/-! arguments, displays -/
theorem la_nil : LA X κ W [] [] := PA.by pa_nil fun σ H Q ⟨ρ, σd, s, R, hE, h⟩ => h ρ H Step.refl R [] .nil
theorem la_cons (ha : LE X κ W e me) (hr : LA X κ W es ms) (hs : starEach (e :: es) X.env = (false, eval e X.env) :: starEach es X.env := by rfl) : LA X κ W (e :: es) (me :: ms) :=
  PA.by (pa_cons ha hr hs) fun σ H Q ⟨ρ, σd, s, R, hE, h⟩ => ⟨ρ, σd, s, R, hE, (Fin.bind h).mono fun dx ρ1 s1 H1 x1 R1 h1 vx hx => ⟨ρ1, σd, s1, R1, hE.later R x1, (Fin.bind h1).mono fun ds ρ2 s2 H2 x2 R2 h2 vs hvs =>
    h2 ρ2 H2 Step.refl R2 _ (.cons (VR.later R1 x2 _ _ hx) hvs)⟩⟩
theorem mArgs_len : ∀ {ms : List ME} {σ : Men} {s s1 : Mst} {ds : List Dv}, mArgs ms σ s = .ok ds s1 → ds.length = ms.length
  | [], σ, s, s1, ds, h => by cases h; rfl
  | m :: ms, σ, s, s1, ds, h => by
    have h' : ((m σ s).bind fun d s1 => (mArgs ms σ s1).bind fun ds s2 => .ok (d :: ds) s2) = .ok ds s1 := h
    cases e : m σ s with
    | bad => rw [e] at h'; cases h'
    | er x s2 => rw [e] at h'; cases h'
    | ok d s2 =>
      rw [e] at h'
      simp only [Rm.bind_ok] at h'
      cases e2 : mArgs ms σ s2 with
      | bad => rw [e2] at h'; cases h'
      | er x s3 => rw [e2] at h'; cases h'
      | ok r s3 =>
        rw [e2] at h'
        simp only [Rm.bind_ok] at h'
        cases h'
        simp [mArgs_len e2]
/-- what args give has their number -/
theorem Fin.args {K : PySem.W.Frag} {ρ : List Addr} {σ : L2.St} {H : Hp} {σd : Men} {s : Mst} {Q : List Dv → List Addr → Mst → Hp → Prop} (h : Fin K κ W ρ σ H (mArgs ms σd s) Q) : Fin K κ W ρ σ H (mArgs ms σd s) fun ds ρ' s' H' => ds.length = ms.length ∧ Q ds ρ' s' H' := by
  cases e : mArgs ms σd s with
  | ok ds s1 => rw [e] at h; exact fun ρ' H' x R => ⟨mArgs_len e, h ρ' H' x R⟩
  | er x s1 => rw [e] at h; exact h
  | bad => rw [e] at h; exact h
theorem le_tup {x1} (h : LA X κ W es ms) (hl : ms.length ≤ 1000 := by first | decide | (simp only [List.length]; decide)) : LE X κ W (.Tuple es x1 pos) (mTup ms) :=
  PE.by (pe_tupD h) fun σ H Q ⟨ρ, σd, s, R, hE, q⟩ => ⟨ρ, σd, s, R, hE, (Fin.args (Fin.bind q)).mono fun ds ρ1 s1 H1 x1 R1 ⟨hn, h1⟩ vs hvs => ⟨by
      have := hvs.length
      have := small1000 hl
      omega, fun p its np => h1 ρ1 _ (Step.lay np) (R1.lay np) _ (by simp only [VR]; exact ⟨p, vs, rfl, .inl ⟨its, upd_same⟩, VRs.later R1 (Step.lay np) _ _ hvs⟩)⟩⟩
theorem le_lst (h : LA X κ W es ms) (hl : ms.length ≤ 1000 := by first | decide | (simp only [List.length]; decide)) : LE X κ W (.List es pos) (mLst ms) :=
  PE.by (pe_lst h) fun σ H Q ⟨ρ, σd, s, R, hE, q⟩ => ⟨ρ, σd, s, R, hE, (Fin.args (Fin.bind q)).mono fun ds ρ1 s1 H1 x1 R1 ⟨hn, h1⟩ vs hvs => ⟨by
      have := hvs.length
      have := small1000 hl
      omega, fun p np => h1 _ _ (Step.new np) (R1.new np ⟨vs, upd_same, VRs.later R1 (Step.new np) _ _ hvs⟩) _ (by rw [← R1.len]; exact VR.last)⟩⟩

/-! calls -/
theorem le_call {CX : CXT} {k : Nat} {f : Addr} {fd : FuncData} {ps : List Str} {n : Nat} {F : MF} {x : Str} {p : Pos} {E : XK} (G : FnOk X.prog X.w X.K X.mg X.base CX k f fd ps (spF X.K κ n F)) (hr : Room k X.A) (hg : Gl X x) (hm : X.mg x = some (.ref f))
    (hk : PySem.W.keepIn X.K (.ref f) = true) (hb : Binds X.K fd ps []) (hx : Passes CX X E) (hE : ∀ c d σ H, W c d σ H → E c d H) (ha : LA X κ W (e :: es) ms) (hn : ms.length = n := by rfl) (hdb : (x == ("__debug__" : Str)) = false := by decide) (he : starEach (e :: es) X.env = (false, eval e X.env) :: starEach es X.env := by rfl)
    (hpl : (backTo pos (starEach es X.env)).any (·.1) = false := by rfl) : LE X κ W (.Call (.Name x p) (e :: es) [] pos) (mCall F ms) :=
  PE.by (pe_call (E := E) G hr hg hm hk hb .nil hx ha hdb he hpl) fun σ H Q ⟨ρ, σd, s, R, hEr, q⟩ => ⟨ρ, σd, s, R, hEr, (Fin.args (Fin.bind q)).mono fun ds ρ1 s1 H1 x1 R1 ⟨hnn, h1⟩ vs hvs => by
    show spF X.K κ n F (vs ++ []) H1 Q E
    rw [List.append_nil]
    refine ⟨by rw [hvs.length, hnn, hn], ρ1, ds, s1, R1, hvs, ?_⟩
    cases e2 : F ds s1 with
    | ok d s2 => rw [e2] at h1; exact h1
    | er z s2 => rw [e2] at h1; exact fun ρ' H' c d x R q => hE _ _ σ _ (h1 ρ' H' c d x R q)
    | bad => rw [e2] at h1; exact h1.elim⟩

/-! tests -/
theorem Fin.tval {K : PySem.W.Frag} {ρ : List Addr} {σ : L2.St} {H : Hp} {m : ME} {σd : Men} {s : Mst} {Q : Bool → List Addr → Mst → Hp → Prop} (h : Fin K κ W ρ σ H (mtVal m σd s) Q) :
    Fin K κ W ρ σ H (m σd s) fun d ρ' s' H' => ∃ c, d = .bl c ∧ Fin K κ W ρ' σ H' (.ok c s') Q :=
  (Fin.bind h).mono fun d ρ' s' H' x R q => by
    cases d with
    | bl c => exact ⟨c, rfl, q⟩
    | non => exact q.elim
    | int i => exact q.elim
    | str x => exact q.elim
    | tup l => exact q.elim
    | ptup l => exact q.elim
    | clst l => exact q.elim
    | loc n => exact q.elim
    | fix n => exact q.elim
    | ty n => exact q.elim
theorem VR.bl {K : PySem.W.Frag} {ρ : List Addr} {H : Hp} {c : Bool} {v : V} (h : VR K κ ρ H (.bl c) v) : v = .bl c := by simpa only [VR] using h
theorem VR.int {K : PySem.W.Frag} {ρ : List Addr} {H : Hp} {c : Int} {v : V} (h : VR K κ ρ H (.int c) v) : v = .int c := by simpa only [VR] using h
theorem VR.str {K : PySem.W.Frag} {ρ : List Addr} {H : Hp} {c : Str} {v : V} (h : VR K κ ρ H (.str c) v) : v = .str c := by simpa only [VR] using h
theorem VR.non {K : PySem.W.Frag} {ρ : List Addr} {H : Hp} {v : V} (h : VR K κ ρ H .non v) : v = .non := by simpa only [VR] using h
theorem lt_val (h : LE X κ W e me) (he : ∀ whole, isTrue e X.env whole = (do let v ← whole; standAt e.pos; holding [v] (truthy v)) := by intro _; rfl) : LT X κ W e (mtVal me) :=
  PT.by (pt_val h he) fun σ H Q ⟨ρ, σd, s, R, hE, q⟩ => ⟨ρ, σd, s, R, hE, (Fin.tval q).mono fun d ρ1 s1 H1 x1 R1 ⟨c, e, h1⟩ v hv => by
    subst e
    exact ⟨c, hv.bl, h1 ρ1 H1 Step.refl R1⟩⟩
theorem lt_cmp {op : CmpOp} {r : R2} {f : Dv → Dv → Mst → Rm Dv} (ho : OpR X (compareOp op) r) (L : OpL X κ r f) (ha : LE X κ W a ma) (hb : LE X κ W b mb) (hm : behindInMarks op b = false := by first | exact nomark _ | rfl) : LT X κ W (.Compare a [op] [b] pos) (mtVal (mOp f ma mb)) :=
  PT.by (pt_cmpR ho ha hb hm) fun σ H Q ⟨ρ, σd, s, R, hE, q⟩ => rd_op L ⟨ρ, σd, s, R, hE, (Fin.tval q).mono fun d ρ1 s1 H1 x1 R1 ⟨c, e, h1⟩ v hv => by
    subst e
    exact ⟨c, hv.bl, h1 ρ1 H1 Step.refl R1⟩⟩
theorem lt_chain {op op' : CmpOp} {r r' : R2} {f g : Dv → Dv → Mst → Rm Dv} {c : Expr} {mc : ME} (ho : OpR X (compareOp op) r) (L : OpL X κ r f) (ho' : OpR X (compareOp op') r') (L' : OpL X κ r' g) (ha : LE X κ W a ma) (hb : LE X κ W b mb) (hc : LE X κ W c mc) (hm : lastMarks [op, op'] [b, c] = false := by with_unfolding_all rfl) : LT X κ W (.Compare a [op, op'] [b, c] pos) (mtVal (mChain f g ma mb mc)) :=
  PT.by (pt_chain ho ho' ha hb hc hm) fun σ H Q ⟨ρ, σd, s, R, hE, q⟩ => rd_chain L L' ⟨ρ, σd, s, R, hE, (Fin.tval q).mono fun d ρ1 s1 H1 x1 R1 ⟨c, e, h1⟩ v hv => by
    subst e
    exact ⟨c, hv.bl, h1 ρ1 H1 Step.refl R1⟩⟩
abbrev LW (X : Cx) (κ : Kap) (W : WX) (e : Expr) (m : MT) : Prop := PW X e (rdT X.K κ W m)
theorem PW.by {e : Expr} {t t' : TT} (h : PW X e t) (f : ∀ σ H Q, t' σ H Q → t σ H Q) : PW X e t' := ⟨fun wh pins s σ H Q I q => h.run wh pins s σ H Q I (f σ H Q q)⟩
theorem lw_and1 (h : LT X κ W a ta) : LW X κ W (.BoolOp .And [a] pos) ta := pw_and1 h
theorem lw_or1 (h : LT X κ W a ta) : LW X κ W (.BoolOp .Or [a] pos) ta := pw_or1 h
theorem lw_and (ha : LT X κ W a ta) (hb : LW X κ W (.BoolOp .And (b :: es) pos) tb) : LW X κ W (.BoolOp .And (a :: b :: es) pos) (mtAnd ta tb) :=
  PW.by (pw_and ha hb) fun σ H Q ⟨ρ, σd, s, R, hE, q⟩ => ⟨ρ, σd, s, R, hE, (Fin.bind q).mono fun c ρ1 s1 H1 x1 R1 h1 => by
    cases c with
    | true => exact ⟨ρ1, σd, s1, R1, hE.later R x1, h1⟩
    | false => exact h1 ρ1 H1 Step.refl R1⟩
theorem lw_or (ha : LT X κ W a ta) (hb : LW X κ W (.BoolOp .Or (b :: es) pos) tb) : LW X κ W (.BoolOp .Or (a :: b :: es) pos) (mtOr ta tb) :=
  PW.by (pw_or ha hb) fun σ H Q ⟨ρ, σd, s, R, hE, q⟩ => ⟨ρ, σd, s, R, hE, (Fin.bind q).mono fun c ρ1 s1 H1 x1 R1 h1 => by
    cases c with
    | false => exact ⟨ρ1, σd, s1, R1, hE.later R x1, h1⟩
    | true => exact h1 ρ1 H1 Step.refl R1⟩
theorem lt_w (h : LW X κ W e ta) : LT X κ W e ta := PW.pt h
theorem lt_not (ha : LT X κ W a ta) : LT X κ W (.UnaryOp .Not a pos) (mtNot ta) :=
  PT.by (pt_not ha) fun σ H Q ⟨ρ, σd, s, R, hE, q⟩ => ⟨ρ, σd, s, R, hE, (Fin.bind q).mono fun c ρ1 s1 H1 x1 R1 h1 => h1 ρ1 H1 Step.refl R1⟩
/-! and, or, not, if as values -/
theorem le_one {op} (h : LE X κ W a ma) : LE X κ W (.BoolOp op [a] pos) ma := pe_one h
theorem le_and (ha : LE X κ W a ma) (hb : LE X κ W (.BoolOp .And (b :: es) pos) mb) : LE X κ W (.BoolOp .And (a :: b :: es) pos) (mAnd ma mb) :=
  PE.by (pe_and ha hb) fun σ H Q ⟨ρ, σd, s, R, hE, q⟩ => ⟨ρ, σd, s, R, hE, (Fin.tval (Fin.bind q)).mono fun d ρ1 s1 H1 x1 R1 ⟨c, e, h1⟩ v hv => by
    subst e
    have h2 := h1 ρ1 H1 Step.refl R1
    refine ⟨c, hv.bl, ?_⟩
    cases c with
    | true => exact ⟨ρ1, σd, s1, R1, hE.later R x1, h2⟩
    | false => exact h2 ρ1 H1 Step.refl R1 _ (by simp only [VR])⟩
theorem le_or (ha : LE X κ W a ma) (hb : LE X κ W (.BoolOp .Or (b :: es) pos) mb) : LE X κ W (.BoolOp .Or (a :: b :: es) pos) (mOr ma mb) :=
  PE.by (pe_or ha hb) fun σ H Q ⟨ρ, σd, s, R, hE, q⟩ => ⟨ρ, σd, s, R, hE, (Fin.tval (Fin.bind q)).mono fun d ρ1 s1 H1 x1 R1 ⟨c, e, h1⟩ v hv => by
    subst e
    have h2 := h1 ρ1 H1 Step.refl R1
    refine ⟨c, hv.bl, ?_⟩
    cases c with
    | false => exact ⟨ρ1, σd, s1, R1, hE.later R x1, h2⟩
    | true => exact h2 ρ1 H1 Step.refl R1 _ (by simp only [VR])⟩
theorem le_not (ha : LE X κ W a ma) : LE X κ W (.UnaryOp .Not a pos) (mNot ma) :=
  PE.by (pe_not ha) fun σ H Q ⟨ρ, σd, s, R, hE, q⟩ => ⟨ρ, σd, s, R, hE, (Fin.tval (Fin.bind q)).mono fun d ρ1 s1 H1 x1 R1 ⟨c, e, h1⟩ v hv => by
    subst e
    have h2 := h1 ρ1 H1 Step.refl R1
    exact ⟨c, hv.bl, h2 ρ1 H1 Step.refl R1 _ (by simp only [VR])⟩⟩
theorem le_if (hc : LT X κ W c ta) (ha : LE X κ W a ma) (hb : LE X κ W b mb) : LE X κ W (.IfExp c a b pos) (mIf ta ma mb) :=
  PE.by (pe_ifExp hc ha hb) fun σ H Q ⟨ρ, σd, s, R, hE, q⟩ => ⟨ρ, σd, s, R, hE, (Fin.bind q).mono fun c ρ1 s1 H1 x1 R1 h1 => by
    cases c with
    | true => exact ⟨ρ1, σd, s1, R1, hE.later R x1, h1⟩
    | false => exact ⟨ρ1, σd, s1, R1, hE.later R x1, h1⟩⟩
end
end Mid
/-! Mid3: statements, targets, loops, comprehensions, defs. -/
namespace Mid
open PySem PySem.Spec L2 Classical

/-- the slots outside ws are as they were -/
def Off (ws : List Nat) (σ σ' : L2.St) : Prop := σ'.length = σ.length ∧ ∀ j, j ∉ ws → σ'[j]? = σ[j]?
theorem Off.refl {ws : List Nat} {σ : L2.St} : Off ws σ σ := ⟨rfl, fun _ _ => rfl⟩
theorem Off.trans {ws us : List Nat} {σ σ1 σ2 : L2.St} (a : Off ws σ σ1) (b : Off us σ1 σ2) : Off (ws ++ us) σ σ2 :=
  ⟨b.1.trans a.1, fun j h => (b.2 j fun z => h (List.mem_append_right _ z)).trans (a.2 j fun z => h (List.mem_append_left _ z))⟩
theorem wipe_get (σ : L2.St) (j : Nat) : ∀ vs : List Nat, (wipe σ vs)[j]? = if j ∈ vs ∧ j < σ.length then some none else σ[j]?
  | [] => by simp [wipe]
  | v :: vs => by
    unfold wipe
    rw [List.getElem?_set]
    rw [wipe_get σ j vs, wipe_length]
    by_cases e : v = j
    · subst e
      by_cases hl : v < σ.length
      · simp [hl]
      · simp [hl, List.getElem?_eq_none (Nat.le_of_not_lt hl)]
    · have e' : ¬ j = v := fun z => e z.symm
      simp [e, e']
theorem wipe_off {ws vs : List Nat} {σ σ' : L2.St} (h : Off ws σ σ') (hs : ∀ w ∈ ws, w ∈ vs) : wipe σ' vs = wipe σ vs := by
  apply List.ext_getElem?
  intro j
  rw [wipe_get, wipe_get, h.1]
  by_cases hj : j ∈ vs ∧ j < σ.length
  · rw [if_pos hj, if_pos hj]
  · rw [if_neg hj, if_neg hj]
    by_cases hv : j ∈ vs
    · have hl : σ.length ≤ j := Nat.le_of_not_lt fun z => hj ⟨hv, z⟩
      rw [List.getElem?_eq_none hl, List.getElem?_eq_none (by rw [h.1]; exact hl)]
    · exact h.2 j fun z => hv (hs j z)
theorem wipe_wipe (σ : L2.St) (vs : List Nat) : wipe (wipe σ vs) vs = wipe σ vs := by
  apply List.ext_getElem?
  intro j
  rw [wipe_get, wipe_length, wipe_get]
  split <;> rfl

section
variable {K : PySem.W.Frag} {κ : Kap} {W : WX} {ρ ρ1 : List Addr} {σ : L2.St} {H H1 : Hp} {s : Mst}
theorem mWipe_length (σ : Men) : ∀ vs : List Nat, (mWipe σ vs).length = σ.length
  | [] => rfl
  | v :: vs => by unfold mWipe; rw [List.length_set, mWipe_length σ vs]
theorem mWipe_some {σ : Men} {i : Nat} {d : Dv} : ∀ {vs : List Nat}, (mWipe σ vs)[i]? = some (some d) → σ[i]? = some (some d) ∧ i ∉ vs
  | [], h => ⟨h, by simp⟩
  | v :: vs, h => by
    unfold mWipe at h
    by_cases e : v = i
    · subst e
      by_cases hl : v < (mWipe σ vs).length
      · rw [List.getElem?_set_self hl] at h; cases h
      · rw [List.getElem?_eq_none (by simpa using hl)] at h; cases h
    · rw [List.getElem?_set_ne e] at h
      obtain ⟨h1, h2⟩ := mWipe_some h
      exact ⟨h1, by simp only [List.mem_cons, not_or]; exact ⟨fun z => e z.symm, h2⟩⟩
theorem ER.wipe {σd : Men} (h : ER K κ ρ H σd σ) (vs : List Nat) : ER K κ ρ H (mWipe σd vs) (L2.wipe σ vs) := by
  refine ⟨by rw [wipe_length, mWipe_length, h.len], fun i d e => ?_⟩
  obtain ⟨e1, e2⟩ := mWipe_some e
  obtain ⟨v, e3, r⟩ := h.at_ i d e1
  exact ⟨v, by rw [wipe_get, if_neg fun z => e2 z.1]; exact e3, r⟩
theorem ER.set {σd : Men} (h : ER K κ ρ H σd σ) {d : Dv} {v : V} (r : VR K κ ρ H d v) (i : Nat) : ER K κ ρ H (σd.set i (some d)) (σ.set i (some v)) := by
  refine ⟨by simp [h.len], fun j e q => ?_⟩
  by_cases hj : i = j
  · subst hj
    by_cases hl : i < σd.length
    · rw [List.getElem?_set_self hl] at q
      cases q
      exact ⟨v, List.getElem?_set_self (by rw [h.len]; exact hl), r⟩
    · rw [List.getElem?_eq_none (by simpa using hl)] at q; cases q
  · rw [List.getElem?_set_ne hj] at q
    obtain ⟨u, e1, e2⟩ := h.at_ j e q
    exact ⟨u, by rw [List.getElem?_set_ne hj]; exact e1, e2⟩
end

/-! ### targets -/
/-- a target's reading: ws the names that it stores -/
def rdG (K : PySem.W.Frag) (κ : Kap) (W : WX) (g : MG) (ws : List Nat) : TG := fun v σ H Q => ∃ ρ σd s d, Rel K κ ρ H s ∧ ER K κ ρ H σd σ ∧ VR K κ ρ H d v ∧
  Fin K κ W ρ σ H (g d σd s) fun σd' ρ' _ H' => ∀ σ', ER K κ ρ' H' σd' σ' → Off ws σ σ' → Q σ' H'
def rdGs (K : PySem.W.Frag) (κ : Kap) (W : WX) (gs : List MG) (ws : List Nat) : TGs := fun vs σ H Q => ∃ ρ σd s ds, Rel K κ ρ H s ∧ ER K κ ρ H σd σ ∧ VRs K κ ρ H ds vs ∧
  Fin K κ W ρ σ H (gEach gs ds σd s) fun σd' ρ' _ H' => ∀ σ', ER K κ ρ' H' σd' σ' → Off ws σ σ' → Q σ' H'
section
variable {X : Cx} {κ : Kap} {W : WX} {pos : Pos}
abbrev LG (X : Cx) (κ : Kap) (W : WX) (e : Expr) (g : MG) (ws : List Nat) : Prop := PG X e (rdG X.K κ W g ws)
abbrev LGs (X : Cx) (κ : Kap) (W : WX) (es : List Expr) (gs : List MG) (ws : List Nat) : Prop := PGs X es (rdGs X.K κ W gs ws)
theorem PG.by {e : Expr} {t t' : TG} (h : PG X e t) (f : ∀ v σ H Q, t' v σ H Q → t v σ H Q) : PG X e t' := ⟨fun pins s σ H v u Q I r q => h.run pins s σ H v u Q I r (f v σ H Q q)⟩
theorem PGs.by {e : List Expr} {t t' : TGs} (h : PGs X e t) (f : ∀ v σ H Q, t' v σ H Q → t v σ H Q) : PGs X e t' := ⟨fun pins s σ H v u Q I r q => h.run pins s σ H v u Q I r (f v σ H Q q)⟩
theorem lg_name (i : Nat) {x : Str} (hN : X.N.Nodup) (hi : X.N[i]? = some x := by rfl) (hx : Loc X.env.scope x := by first | exact Or.inl rfl | exact Or.inr rfl) (hf : X.fn x = true ∨ X.env.scope.names.lookup x = some .local := by first | exact .inl rfl | exact .inr rfl | assumption) : LG X κ W (.Name x pos) (gN i) [i] :=
  PG.by (pg_name hN hi hx hf) fun v σ H Q ⟨ρ, σd, s, d, R, hE, r, h⟩ => h ρ H Step.refl R _ (hE.set r i) ⟨by simp, fun j hj => by rw [List.getElem?_set_ne fun z => hj (by rw [z]; simp)]⟩
theorem lgs_nil : LGs X κ W [] [] [] :=
  PGs.by pgs_nil fun vs σ H Q ⟨ρ, σd, s, ds, R, hE, r, h⟩ => by
    cases ds with
    | cons d ds => exact h.elim
    | nil =>
      simp only [VRs] at r
      exact ⟨r, h ρ H Step.refl R σ hE Off.refl⟩
theorem Fin.noEr {K : PySem.W.Frag} {α : Type} {W' : WX} {ρ : List Addr} {σ σ' : L2.St} {H : Hp} {r : Rm α} {Q : α → List Addr → Mst → Hp → Prop} (h : Fin K κ W ρ σ H r.noEr Q) : Fin K κ W' ρ σ' H r Q := by
  cases r with
  | ok a s => exact h
  | er e s => exact h.elim
  | bad => exact h
theorem Fin.off {K : PySem.W.Frag} {α : Type} {ρ : List Addr} {σ σ' : L2.St} {H : Hp} {r : Rm α} {Q : α → List Addr → Mst → Hp → Prop} (h : Fin K κ (fun _ _ _ _ => False) ρ σ H r Q) : Fin K κ W ρ σ' H r Q := by
  cases r with
  | ok a s => exact h
  | er e s =>
    exact fun ρ' H' c d x R q => (h ρ' H' c d x R q).elim
  | bad => exact h
end
/-- no exception -/
abbrev W0 : WX := fun _ _ _ _ => False
section
variable {X : Cx} {κ : Kap} {W : WX} {pos : Pos}
/-- the targets' parts raise nothing here -/
theorem lgs_cons {e : Expr} {es : List Expr} {g : MG} {gs : List MG} {ws us : List Nat} (h1 : LG X κ W0 e g ws) (h2 : LGs X κ W0 es gs us) (hs : (assignEach (e :: es) X.env).map (·.2) = assign e X.env :: (assignEach es X.env).map (·.2) := by rfl) :
    LGs X κ W0 (e :: es) (g :: gs) (ws ++ us) :=
  PGs.by (pgs_cons h1 h2 hs) fun vs σ H Q ⟨ρ, σd, s, ds, R, hE, r, h⟩ => by
    cases ds with
    | nil => exact h.elim
    | cons d ds =>
      simp only [VRs] at r
      obtain ⟨v, vr, e, r1, r2⟩ := r
      exact ⟨v, vr, e, ρ, σd, s, d, R, hE, r1, (Fin.bind h).mono fun σ1 ρ1 s1 H1 x1 R1 q σ' hE' ho => ⟨ρ1, σ1, s1, ds, R1, hE', VRs.later R x1 _ _ r2, (Fin.off q).mono fun σ2 ρ2 s2 H2 x2 R2 q2 σ'' hE'' ho2 => q2 σ'' hE'' (ho.trans ho2)⟩⟩
theorem lg_tup {es : List Expr} {k : Nat} {gs : List MG} {ws : List Nat} (hc : X.calm = true) (h : LGs X κ W0 es gs ws) (hl : gs.length = es.length := by rfl)
    (hn : (assignEach es X.env).length = es.length := by rfl) (hst : (assignEach es X.env).findIdx? (·.1) = none := by rfl) : LG X κ W (.Tuple es k pos) (gT gs) ws :=
  PG.by (pg_tup hc h hn hst) fun v σ H Q ⟨ρ, σd, s, d, R, hE, r, h⟩ => by
    cases d with
    | tup l =>
      unfold gT at h
      simp only at h
      by_cases e : l.length = gs.length
      · rw [if_pos e] at h
        obtain ⟨a, vs, e1, e2, e3⟩ := VR.tupE r
        refine ⟨a, vs, e1, e2, by rw [e3.length, e, hl], ρ, σd, s, l, R, hE, e3, ?_⟩
        exact Fin.noEr h
      · rw [if_neg e] at h; exact h.elim
    | ptup l =>
      unfold gT at h
      simp only at h
      by_cases e : l.length = gs.length
      · rw [if_pos e] at h
        obtain ⟨a, vs, e1, e2, e3⟩ := VR.ptupE r
        refine ⟨a, vs, e1, e2, by rw [e3.length, e, hl], ρ, σd, s, l, R, hE, e3, ?_⟩
        exact Fin.noEr h
      · rw [if_neg e] at h; exact h.elim
    | _ => exact h.elim

/-! ### statements -/
variable {a b c e tg iter o i : Expr} {ma mb me mo mi : ME} {tc : MT} {st : Stmt} {rest body sb sc : List Stmt} {m m1 m2 : MS} {g : MG} {ws : List Nat}
theorem ls_nil : LSs X κ W [] msNx := PSs.by pss_nil fun D σ H ⟨ρ, σd, s, R, hE, h⟩ => h ρ H σ Step.refl R hE
theorem FinS.then {K : PySem.W.Frag} {D : Ends} {ρ : List Addr} {H : Hp} {r : Sm} (h : FinS K κ W D ρ H (r.andThen m)) : FinS K κ W { D with nx := rdS K κ W m D } ρ H r := by
  cases r with
  | nx σ s => exact fun ρ' H' σ' x R hE => ⟨ρ', σ, s, R, hE, h.step x⟩
  | ct σ s => exact h
  | bk σ s => exact h
  | rt d s => exact h
  | er e σ s => exact h
  | bad => exact h
theorem ls_cons (h1 : LS X κ W st m1) (h2 : LSs X κ W rest m2) : LSs X κ W (st :: rest) (msSeq m1 m2) :=
  PSs.by (pss_cons h1 h2) fun D σ H ⟨ρ, σd, s, R, hE, h⟩ => ⟨ρ, σd, s, R, hE, FinS.then h⟩
theorem ls_one (h1 : LS X κ W st m1) : LSs X κ W [st] m1 := pss_one h1
theorem ls_pass : LS X κ W (.Pass pos) msNx := PS.by ps_pass fun D σ H ⟨ρ, σd, s, R, hE, h⟩ => h ρ H σ Step.refl R hE
theorem ls_break : LS X κ W (.Break pos) msBrk := PS.by ps_break fun D σ H ⟨ρ, σd, s, R, hE, h⟩ => h ρ H σ Step.refl R hE
theorem ls_continue : LS X κ W (.Continue pos) msCnt := PS.by ps_continue fun D σ H ⟨ρ, σd, s, R, hE, h⟩ => h ρ H σ Step.refl R hE
theorem ls_never : LS X κ W st msBad := PS.by ps_never fun D σ H ⟨ρ, σd, s, R, hE, h⟩ => h
theorem lss_never : LSs X κ W rest msBad := PSs.by pss_never fun D σ H ⟨ρ, σd, s, R, hE, h⟩ => h
theorem ls_expr (he : LE X κ W e me) (hs : swapsWith e none pos.line X.env = pure false := by rfl) : LS X κ W (.Expr e pos) (msExp me) :=
  PS.by (ps_expr he hs) fun D σ H ⟨ρ, σd, s, R, hE, h⟩ => ⟨ρ, σd, s, R, hE, (FinS.st h R hE).mono fun d ρ1 s1 H1 x1 R1 q v hv => q ρ1 H1 σ Step.refl R1 (hE.later R x1)⟩
theorem ls_ret (he : LE X κ W e me) : LS X κ W (.Return (some e) pos) (msRet me) :=
  PS.by (ps_ret he) fun D σ H ⟨ρ, σd, s, R, hE, h⟩ => ⟨ρ, σd, s, R, hE, (FinS.st h R hE).mono fun d ρ1 s1 H1 x1 R1 q v hv => q ρ1 H1 v Step.refl R1 hv⟩
theorem ls_retN : LS X κ W (.Return none pos) msRetN := PS.by ps_retN fun D σ H ⟨ρ, σd, s, R, hE, h⟩ => h ρ H .non Step.refl R (by simp only [VR])
theorem ls_if (hc : LT X κ W c tc) (ha : LSs X κ W sb m1) (hb : LSs X κ W sc m2) : LS X κ W (.If c sb sc pos) (msIf tc m1 m2) :=
  PS.by (ps_if hc ha hb) fun D σ H ⟨ρ, σd, s, R, hE, h⟩ => ⟨ρ, σd, s, R, hE, (FinS.st h R hE).mono fun d ρ1 s1 H1 x1 R1 q => by
    cases d with
    | true => exact ⟨ρ1, σd, s1, R1, hE.later R x1, q⟩
    | false => exact ⟨ρ1, σd, s1, R1, hE.later R x1, q⟩⟩
theorem ls_set (j : Nat) {x : Str} {pos' : Pos} (hN : X.N.Nodup) (he : LE X κ W e me) (hi : X.N[j]? = some x := by rfl) (hx : Loc X.env.scope x := by first | exact Or.inl rfl | exact Or.inr rfl) (hs : swapsWith e (some (.Name x pos')) pos.line X.env = pure false := by rfl)
    (hf : X.fn x = true ∨ X.env.scope.names.lookup x = some .local := by first | exact .inl rfl | exact .inr rfl | assumption) : LS X κ W (.Assign [.Name x pos'] e pos) (msSet j me) :=
  PS.by (ps_set hN hi hx he hs hf) fun D σ H ⟨ρ, σd, s, R, hE, h⟩ => ⟨ρ, σd, s, R, hE, (FinS.st h R hE).mono fun d ρ1 s1 H1 x1 R1 q v hv => q ρ1 H1 _ Step.refl R1 ((hE.later R x1).set hv j)⟩
theorem ls_asg (he : LE X κ W e me) (hg : LG X κ W tg g ws) (hs : swapsWithSole [tg] e pos.line X.env = pure false := by rfl) (hw : swappedStores [tg] e X.env = pure none := by rfl) (h1 : (assignEach [tg] X.env).map (·.2) = [assign tg X.env] := by rfl) :
    LS X κ W (.Assign [tg] e pos) (msAsg g me) :=
  PS.by (ps_asg he hg hs hw h1) fun D σ H ⟨ρ, σd, s, R, hE, h⟩ => ⟨ρ, σd, s, R, hE, (FinS.st h R hE).mono fun d ρ1 s1 H1 x1 R1 q v hv => ⟨ρ1, σd, s1, d, R1, hE.later R x1, hv, (FinS.st q R1 (hE.later R x1)).mono fun σ2 ρ2 s2 H2 x2 R2 q2 σ' hE' ho => q2 ρ2 H2 σ' Step.refl R2 hE'⟩⟩
/-- a, b = e1, e2: two local names -/
def msPar (i j : Nat) (ea eb : ME) : MS := fun σ s => (ea σ s).st σ fun d s1 => (eb σ s1).st σ fun d' s2 => .nx ((σ.set i (some d)).set j (some d')) s2
theorem ls_par (j k : Nat) {x y : Str} {px py pt : Pos} {kt k2 pt2} (hc : X.calm = true) (hN : X.N.Nodup) (he : LE X κ W a ma) (he2 : LE X κ W b mb) (hi : X.N[j]? = some x := by rfl) (hj : X.N[k]? = some y := by rfl) (hij : j ≠ k := by decide) (hx : X.env.scope.names.lookup x = some .local := by rfl) (hy : X.env.scope.names.lookup y = some .local := by rfl)
    (hw : swappedStores [.Tuple [.Name x px, .Name y py] kt pt] (.Tuple [a, b] k2 pt2) X.env = pure (some [x, y]) := by rfl) (hs : swapsWithSole [.Tuple [.Name x px, .Name y py] kt pt] (.Tuple [a, b] k2 pt2) pos.line X.env = pure false := by rfl)
    (hs1 : starEach [a, b] X.env = (false, eval a X.env) :: starEach [b] X.env := by rfl) (hs2 : starEach [b] X.env = (false, eval b X.env) :: starEach [] X.env := by rfl) : LS X κ W (.Assign [.Tuple [.Name x px, .Name y py] kt pt] (.Tuple [a, b] k2 pt2) pos) (msPar j k ma mb) :=
  PS.by (ps_par hc hN hi hj hij hx hy (pa_cons he (pa_cons he2 pa_nil hs2) hs1) hw hs) fun D σ H ⟨ρ, σd, s, R, hE, h⟩ => ⟨ρ, σd, s, R, hE, (FinS.st h R hE).mono fun d ρ1 s1 H1 x1 R1 q v hv => ⟨ρ1, σd, s1, R1, hE.later R x1, (FinS.st q R1 (hE.later R x1)).mono fun d2 ρ2 s2 H2 x2 R2 q2 v2 hv2 =>
    ⟨v, v2, rfl, q2 ρ2 H2 _ Step.refl R2 ((((hE.later R x1).later R1 x2).set (VR.later R1 x2 _ _ hv) j).set hv2 k)⟩⟩⟩
/-- o[i] = e by values -/
def SetL (X : Cx) (κ : Kap) (t : TSet) (f : Dv → Dv → Dv → Mst → Rm Unit) : Prop := ∀ W ρ σ H s x y z dx dy dz Q, Rel X.K κ ρ H s → VR X.K κ ρ H dx x → VR X.K κ ρ H dy y → VR X.K κ ρ H dz z → Fin X.K κ W ρ σ H (f dx dy dz s) (fun _ _ _ H' => Q H') → t x y z H Q
theorem ls_put {t : TSet} {f : Dv → Dv → Dv → Mst → Rm Unit} {pos' : Pos} (hp : PSet X t) (L : SetL X κ t f) (he : LE X κ W e me) (ho : LE X κ W o mo) (hi : LE X κ W i mi)
    (ha : ∀ v, assign (.Subscript o i pos') X.env v = (do
      let ov ← holding [v] (eval o X.env)
      let iv ← holding [v, ov] (eval i X.env)
      standAt pos'
      holding [v, ov, iv] (setItem ov iv v)
      release [v, ov, iv] []) := by intro _; rfl)
    (hs : swapsWithSole [.Subscript o i pos'] e pos.line X.env = pure false := by rfl) (hw : swappedStores [.Subscript o i pos'] e X.env = pure none := by rfl) (h1 : (assignEach [.Subscript o i pos'] X.env).map (·.2) = [assign (.Subscript o i pos') X.env] := by rfl) :
    LS X κ W (.Assign [.Subscript o i pos'] e pos) (msPut f mo mi me) :=
  PS.by (ps_asg he (pg_sub ho hi hp ha) hs hw h1) fun D σ H ⟨ρ, σd, s, R, hE, h⟩ => ⟨ρ, σd, s, R, hE, (FinS.st h R hE).mono fun d ρ1 s1 H1 x1 R1 q v hv => ⟨ρ1, σd, s1, R1, hE.later R x1, (FinS.st q R1 (hE.later R x1)).mono fun d2 ρ2 s2 H2 x2 R2 q2 v2 hv2 =>
    ⟨ρ2, σd, s2, R2, (hE.later R x1).later R1 x2, (FinS.st q2 R2 ((hE.later R x1).later R1 x2)).mono fun d3 ρ3 s3 H3 x3 R3 q3 v3 hv3 =>
      L W ρ3 σ H3 s3 v2 v3 v d2 d3 d _ R3 (VR.later R2 x3 _ _ hv2) hv3 (VR.later R2 x3 _ _ (VR.later R1 x2 _ _ hv))
        ((FinS.st q3 R3 (((hE.later R x1).later R1 x2).later R2 x3)).mono fun _ ρ4 s4 H4 x4 R4 q4 => q4 ρ4 H4 σ Step.refl R4 ((((hE.later R x1).later R1 x2).later R2 x3).later R3 x4))⟩⟩⟩

/-! ### while -/
theorem FinS.turn {K : PySem.W.Frag} {D : Ends} {ρ : List Addr} {H : Hp} {r : Sm} {f : MS} {N : L2.St → Hp → Prop} (h : FinS K κ W D ρ H (r.turn f)) (hN : ∀ ρ' σd σ' s' H', Step ρ H ρ' H' → Rel K κ ρ' H' s' → ER K κ ρ' H' σd σ' → FinS K κ W D ρ' H' (f σd s') → N σ' H') :
    FinS K κ W { D with nx := N, ct := N, bk := D.nx } ρ H r := by
  cases r with
  | nx σ s => exact fun ρ' H' σ' x R hE => hN ρ' σ σ' s H' x R hE (h.step x)
  | ct σ s => exact fun ρ' H' σ' x R hE => hN ρ' σ σ' s H' x R hE (h.step x)
  | bk σ s => exact h
  | rt d s => exact h
  | er e σ s => exact h
  | bad => exact h
theorem ls_while (hp : PassesOwn (model X.prog X.w) X.A X.env X.xe) (hc : LT X κ W c tc) (hb : LSs X κ W body m) : LS X κ W (.While c body [] pos) (msWhile tc m) :=
  PS.by (ps_while hp hc hb) fun D σ H ⟨ρ, σd, s, R, hE, h⟩ => by
    have hne : msWhile tc m σd s ≠ .bad := fun z => by rw [z] at h; exact h
    obtain ⟨n, hn⟩ := msWhile_ex hne
    rw [hn] at h
    refine ⟨fun n σ H => ∃ ρ σd s, Rel X.K κ ρ H s ∧ ER X.K κ ρ H σd σ ∧ FinS X.K κ W D ρ H (whileF tc m n σd s), ⟨n, ρ, σd, s, R, hE, h⟩, ?_⟩
    rintro n σ H ⟨ρ, σd, s, R, hE, h⟩
    cases n with
    | zero => exact h.elim
    | succ n =>
      refine ⟨ρ, σd, s, R, hE, (FinS.st h R hE).mono fun d ρ1 s1 H1 x1 R1 q => ?_⟩
      cases d with
      | false => exact q ρ1 H1 σ Step.refl R1 (hE.later R x1)
      | true =>
        refine ⟨fun σ' H' => ∃ ρ σd s, Rel X.K κ ρ H' s ∧ ER X.K κ ρ H' σd σ' ∧ FinS X.K κ W D ρ H' (whileF tc m n σd s), fun σ' H' w => ⟨n, Nat.lt_succ_self n, w⟩, ρ1, σd, s1, R1, hE.later R x1, FinS.turn q fun ρ' σd' σ' s' H' x R hE q => ⟨ρ', σd', s', R, hE, q⟩⟩

/-! ### what is walked -/
/-- J yields what it says -/
def ItOk (K : PySem.W.Frag) (κ : Kap) (ρ0 : List Addr) (H0 : Hp) (it : Mit) (J : It) : Prop := ∀ ρ H s, Kp ρ0 H0 ρ H → Rel K κ ρ H s → Mit.stays it.src s →
  (∀ i x, it.xs[i]? = some x → J.go i H ∧ ∀ v H', J.yld i H v H' → Step ρ H ρ H' ∧ Rel K κ ρ H' s ∧ VR K κ ρ H' x v) ∧ (∀ i, it.xs.length ≤ i → J.stop i H)
def rdI (K : PySem.W.Frag) (κ : Kap) (W : WX) (m : MI) : TI := fun σ H R => ∃ ρ σd s, Rel K κ ρ H s ∧ ER K κ ρ H σd σ ∧ Fin K κ W ρ σ H (m σd s) fun it ρ' _ H' => ∀ J, ItOk K κ ρ' H' it J → R J H'
abbrev LI (X : Cx) (κ : Kap) (W : WX) (tg iter : Expr) (m : MI) : Prop := PI X tg iter (rdI X.K κ W m)
theorem PI.by {tg e : Expr} {t t' : TI} (h : PI X tg e t) (f : ∀ σ H R, t' σ H R → t σ H R) : PI X tg e t' := ⟨fun pins s σ H R I q => h.run pins s σ H R I (f σ H R q)⟩
theorem getElem?_of_drop {α : Type} {l r : List α} {x : α} {i : Nat} (h : l.drop i = x :: r) : l[i]? = some x ∧ l.drop (i + 1) = r := by
  have h1 : l[i]? = (l.drop i)[0]? := by simp
  constructor
  · rw [h1, h]; rfl
  · have : l.drop (i + 1) = (l.drop i).drop 1 := by rw [List.drop_drop]
    rw [this, h]; rfl
theorem length_of_drop {α : Type} {l : List α} {i : Nat} (h : l.drop i = []) : l.length ≤ i := List.drop_eq_nil_iff.mp h
theorem Kp.refl {ρ : List Addr} {H : Hp} : Kp ρ H ρ H := ⟨fun _ _ h => h, fun _ _ h => h, fun _ _ _ h => h, fun _ _ h => h⟩
theorem Kp.trans {ρ ρ1 ρ2 : List Addr} {H H1 H2 : Hp} (a : Kp ρ H ρ1 H1) (b : Kp ρ1 H1 ρ2 H2) : Kp ρ H ρ2 H2 :=
  ⟨fun n p h => b.ix n p (a.ix n p h), fun p x h => b.tup p x (a.tup p x h), fun p o u h => b.frz p o u (a.frz p o u h), fun p x h => b.xds p x (a.xds p x h)⟩
theorem ls_for {mit : MI} (hp : PassesOwn (model X.prog X.w) X.A X.env X.xe) (hc : X.calm = true) (hi : LI X κ W tg iter mit) (hg : LG X κ W tg g ws) (hb : LSs X κ W body m) (hs : ∀ x, foldedSetIterable iter X.env x = pure x := by intro _; rfl) :
    LS X κ W (.For tg iter body [] pos) (msFor mit g m) :=
  PS.by (ps_for hp hc hi hg hb hs) fun D σ H ⟨ρ, σd, s, R, hE, h⟩ => ⟨ρ, σd, s, R, hE, (FinS.st h R hE).mono fun it ρ0 s0 H0 x0 R0 q J hJ => by
    refine ⟨fun i n σ H => n = it.xs.length - i ∧ i ≤ it.xs.length ∧ ∃ ρ σd s, Kp ρ0 H0 ρ H ∧ Rel X.K κ ρ H s ∧ ER X.K κ ρ H σd σ ∧ FinS X.K κ W D ρ H (forF it.src g m (it.xs.drop i) σd s),
      ⟨it.xs.length, by simp, Nat.zero_le _, ρ0, σd, s0, Kp.refl, R0, hE.later R x0, by simpa using q⟩, ?_⟩
    rintro i n σ H ⟨rfl, hil, ρ, σd, s, kp, R, hE, h⟩
    by_cases hst : Mit.stays it.src s
    · obtain ⟨hgo, hstop⟩ := hJ ρ H s kp R hst
      cases hd : it.xs.drop i with
      | nil =>
        rw [hd] at h
        unfold forF at h
        rw [if_pos hst] at h
        exact .inl ⟨hstop i (length_of_drop hd), h ρ H σ Step.refl R hE⟩
      | cons x r =>
        rw [hd] at h
        unfold forF at h
        rw [if_pos hst] at h
        obtain ⟨e1, e2⟩ := getElem?_of_drop hd
        obtain ⟨go, yl⟩ := hgo i x e1
        have hlt : i < it.xs.length := (List.getElem?_eq_some_iff.mp e1).1
        refine .inr ⟨go, fun σ' H' => i + 1 ≤ it.xs.length ∧ ∃ ρ σd s, Kp ρ0 H0 ρ H' ∧ Rel X.K κ ρ H' s ∧ ER X.K κ ρ H' σd σ' ∧ FinS X.K κ W D ρ H' (forF it.src g m (it.xs.drop (i + 1)) σd s),
          fun σ' H' ⟨l, w⟩ => ⟨it.xs.length - (i + 1), by omega, rfl, l, w⟩, fun v H1 y => ?_⟩
        obtain ⟨st1, R1, r1⟩ := yl v H1 y
        have kp1 := kp.trans (st1.kp R)
        refine ⟨ρ, σd, s, x, R1, hE.later R st1, r1, ((FinS.st h R hE).step st1).mono fun σ2 ρ2 s2 H2 x2 R2 q2 σ' hE' ho => ⟨ρ2, σ2, s2, R2, hE', FinS.turn q2 fun ρ' σd' σ'' s' H' x3 R3 hE3 q3 => ⟨hlt, ρ', σd', s', (kp1.trans (x2.kp R1)).trans (x3.kp R2), R3, hE3, by rw [e2]; exact q3⟩⟩⟩
    · exfalso
      cases hd : it.xs.drop i with
      | nil => rw [hd] at h; unfold forF at h; rw [if_neg hst] at h; exact h
      | cons x r => rw [hd] at h; unfold forF at h; rw [if_neg hst] at h; exact h⟩
end
end Mid
/-! Mid4: comprehensions, what is walked, defs. -/
namespace Mid
open PySem PySem.Spec L2 Classical
open PyProof.Rows (envOfC)
section
variable {K : PySem.W.Frag} {κ : Kap} {ρ ρ' ρ0 : List Addr} {H H' H0 : Hp} {s : Mst} {a : Addr}
theorem Step.out (x : Step ρ H ρ' H') {o : HO} (e : H a = some o) (n : a ∉ ρ) : a ∉ ρ' := by
  obtain ⟨l, rfl, hl⟩ := x.pre
  intro h
  rcases List.mem_append.mp h with h | h
  · exact n h
  · rw [hl a h] at e; cases e
theorem Step.apart (x : Step ρ0 H0 ρ H) (n : H0 a = none) {o : HO} : Step ρ0 H0 ρ (upd H a o) :=
  ⟨x.pre, fun b u e hb => by rw [upd_ne (ne_of_none e n)]; exact x.keep b u e hb, fun b e => by
    by_cases h : b = a
    · subst h; rw [upd_same]; simp
    · rw [upd_ne h]; exact x.live b e⟩
theorem Step.add (x : Step ρ0 H0 ρ H) (n : H0 a = none) : Step ρ0 H0 (ρ ++ [a]) H := by
  refine ⟨?_, x.keep, x.live⟩
  obtain ⟨l, rfl, hl⟩ := x.pre
  refine ⟨l ++ [a], by simp, fun p hp => ?_⟩
  rcases List.mem_append.mp hp with h | h
  · exact hl p h
  · rw [List.mem_singleton.mp h]; exact n
end

section
variable {X : Cx} {κ : Kap} {W : WX} {pos : Pos} {elt tg iter : Expr} {ifs : List Expr} {scope : Scope} {own : List (Str × Nat)} {mit : MI} {g : MG} {tt : MT} {me : ME} {ws : List Nat}
abbrev LTs (X : Cx) (κ : Kap) (W : WX) (ifs : List Expr) (t : MT) : Prop := PTs X ifs (rdT X.K κ W t)
theorem PTs.by {e : List Expr} {t t' : TT} (h : PTs X e t) (f : ∀ σ H Q, t' σ H Q → t σ H Q) : PTs X e t' := ⟨fun pins s σ H Q I q => h.run pins s σ H Q I (f σ H Q q)⟩
theorem lts_nil : LTs X κ W [] mtYes := PTs.by pts_nil fun σ H Q ⟨ρ, σd, s, R, hE, h⟩ => h ρ H Step.refl R
theorem lts_one {c : Expr} (h : LT X κ W c tt) : LTs X κ W [c] tt := pts_one h

theorem Rm.bind_eq_ok {α β : Type} {r : Rm α} {f : α → Mst → Rm β} {b : β} {s' : Mst} (h : r.bind f = .ok b s') : ∃ a s, r = .ok a s ∧ f a s = .ok b s' := by
  cases r with
  | ok a s => exact ⟨a, s, rfl, h⟩
  | er e s => cases h
  | bad => cases h
theorem Rm.noEr_eq_ok {α : Type} {r : Rm α} {b : α} {s' : Mst} (h : r.noEr = .ok b s') : r = .ok b s' := by
  cases r with
  | ok a s => exact h
  | er e s => cases h
  | bad => cases h
theorem rd_lc (hws : ∀ w ∈ ws, w ∈ own.map (·.2)) {σ : L2.St} {H : Hp} {Q : VK} (h : rd X.K κ W (mLc mit g tt me (own.map (·.2))) σ H Q) :
    tLc (rdI X.K κ W mit) (rdG X.K κ W0 g ws) (rdT X.K κ W0 tt) (rd X.K κ W0 me) (own.map (·.2)) σ H Q := by
  obtain ⟨ρ, σd, s, R, hE, h⟩ := h
  refine ⟨ρ, σd, s, R, hE, (Fin.bind h).mono fun it ρ0 s0 H0 x0 R0 q J hJ D hD => ?_⟩
  generalize hvs : own.map (·.2) = vs at hws q ⊢
  cases e1 : (lcF it.src g tt me (mWipe σd vs) it.xs s0).noEr with
  | bad => rw [e1] at q; exact q.elim
  | er z s1 =>
    cases e2 : lcF it.src g tt me (mWipe σd vs) it.xs s0 with
    | ok a b => rw [e2] at e1; cases e1
    | er a b => rw [e2] at e1; cases e1
    | bad => rw [e2] at e1; cases e1
  | ok ds s2 =>
  rw [e1] at q
  simp only [Rm.bind_ok] at q
  by_cases hlen : it.xs.length < 2 ^ 24
  case neg => rw [if_neg hlen] at q; exact q.elim
  rw [if_pos hlen] at q
  replace e1 := Rm.noEr_eq_ok e1
  have hE0 := hE.later R x0
  refine ⟨fun i n H => n = it.xs.length - i ∧ i ≤ it.xs.length ∧ ∃ ρ s acc da rest, Step ρ0 H0 ρ H ∧ Rel X.K κ ρ H s ∧ H D = some (.lst acc) ∧ D ∉ ρ ∧ acc.length ≤ i ∧ VRs X.K κ ρ H da acc ∧ lcF it.src g tt me (mWipe σd vs) (it.xs.drop i) s = .ok rest s2 ∧ ds = da ++ rest,
    ⟨it.xs.length, by simp, Nat.zero_le _, ρ0, s0, [], [], ds, Step.lay hD, R0.lay hD, upd_same, R0.fresh hD, Nat.le_refl _, .nil, by simpa using e1, rfl⟩, ?_⟩
  rintro i n H1 ⟨rfl, hil, ρ1, s1, acc, da, rest, x1, R1, eD, nD, hacc, hda, hl, hds⟩
  have hst : Mit.stays it.src s1 := by
    by_cases z : Mit.stays it.src s1
    · exact z
    · exfalso
      cases hd : it.xs.drop i with
      | nil => rw [hd] at hl; unfold lcF at hl; rw [if_neg z] at hl; cases hl
      | cons x r => rw [hd] at hl; unfold lcF at hl; rw [if_neg z] at hl; cases hl
  obtain ⟨hgo, hstop⟩ := hJ ρ1 H1 s1 (x1.kp R0) R1 hst
  cases hd : it.xs.drop i with
  | nil =>
    rw [hd] at hl
    unfold lcF at hl
    rw [if_pos hst] at hl
    cases hl
    rw [List.append_nil] at hds
    subst hds
    refine .inl ⟨hstop i (length_of_drop hd), q (ρ1 ++ [D]) H1 (x1.add hD) (R1.add ⟨acc, eD, hda⟩ nD) (.ref D) ?_⟩
    rw [← R1.len]
    exact VR.last
  | cons x r =>
    rw [hd] at hl
    unfold lcF at hl
    rw [if_pos hst] at hl
    obtain ⟨i1, i2⟩ := getElem?_of_drop hd
    obtain ⟨go, yl⟩ := hgo i x i1
    have hlt : i < it.xs.length := (List.getElem?_eq_some_iff.mp i1).1
    obtain ⟨σ2, s3, e3, hl⟩ := Rm.bind_eq_ok hl
    obtain ⟨c, s4, e4, hl⟩ := Rm.bind_eq_ok hl
    refine .inr ⟨go, fun H => i + 1 ≤ it.xs.length ∧ ∃ ρ s acc da rest', Step ρ0 H0 ρ H ∧ Rel X.K κ ρ H s ∧ H D = some (.lst acc) ∧ D ∉ ρ ∧ acc.length ≤ i + 1 ∧ VRs X.K κ ρ H da acc ∧ lcF it.src g tt me (mWipe σd vs) (it.xs.drop (i + 1)) s = .ok rest' s2 ∧ ds = da ++ rest',
      fun H' ⟨l, w⟩ => ⟨it.xs.length - (i + 1), by omega, rfl, l, w⟩, fun v H2 y => ?_⟩
    obtain ⟨st2, R2, r2⟩ := yl v H2 y
    have hE2 := ((hE0.kp (x1.kp R0)).later R1 st2).wipe vs
    refine ⟨ρ1, mWipe σd vs, s1, x, R2, hE2, r2, ?_⟩
    rw [e3]
    intro ρ3 H3 x3 R3 σ3 hE3 ho
    refine ⟨(wipe_off ho hws).trans (wipe_wipe σ vs), ρ3, σ2, s3, R3, hE3, ?_⟩
    rw [e4]
    intro ρ4 H4 x4 R4
    have X4 : Step ρ1 H1 ρ4 H4 := (st2.trans x3).trans x4
    cases c with
    | false =>
      rw [if_neg Bool.false_ne_true] at hl
      exact iteF ⟨hlt, ρ4, s4, acc, da, rest, x1.trans X4, R4, X4.keep _ _ eD nD, X4.out eD nD, Nat.le_succ_of_le hacc, VRs.later R1 X4 _ _ hda, by rw [i2]; exact hl, hds⟩
    | true =>
      rw [if_pos rfl] at hl
      apply iteT
      obtain ⟨d, s5, e5, hl⟩ := Rm.bind_eq_ok hl
      obtain ⟨dr, s6, e6, hl⟩ := Rm.bind_eq_ok hl
      cases hl
      refine ⟨ρ4, σ2, s4, R4, hE3.later R3 x4, ?_⟩
      rw [e5]
      intro ρ5 H5 x5 R5 vy hy
      have X5 := X4.trans x5
      have eD5 : H5 D = some (.lst acc) := X5.keep _ _ eD nD
      have nD5 := X5.out eD nD
      refine ⟨acc, eD5, ?_, hlt, ρ5, s5, acc ++ [vy], da ++ [d], dr, (x1.trans X5).apart hD, R5.apart eD5 nD5, upd_same, nD5, by simpa using hacc, ?_, by rw [i2]; exact e6, by rw [hds]; simp⟩
      · have : (2 : Nat) ^ 24 = sizeLine := rfl
        omega
      · exact (VRs.later R1 X5 _ _ hda).append (.cons hy .nil) |> fun z => VRs.kp (Kp.apart eD5) _ _ z
theorem le_lc {vs : List Nat} (hc : X.calm = true) (hN : X.N.Nodup) (hi : LI X κ W tg iter mit) (ok : BlkOk X.N X.env.scope scope own) (hv : own.map (·.2) = vs) (hws : ∀ w ∈ ws, w ∈ vs)
    (hg : ∀ (s : Shared) (H : Hp) (C : Addr) (cl : List (Str × Addr)) (fp : List Addr), LG (X.blk s H scope (compEnvC scope cl C X.env) fp) κ W0 tg g ws) (ht : ∀ (s : Shared) (H : Hp) (C : Addr) (cl : List (Str × Addr)) (fp : List Addr), LTs (X.blk s H scope (compEnvC scope cl C X.env) fp) κ W0 ifs tt)
    (he : ∀ (s : Shared) (H : Hp) (C : Addr) (cl : List (Str × Addr)) (fp : List Addr), LE (X.blk s H scope (compEnvC scope cl C X.env) fp) κ W0 elt me) (hs : ∀ x, foldedSetIterable iter X.env x = pure x := by intro _; rfl) :
    LE X κ W (.ListComp elt [⟨tg, iter, ifs, 0⟩] scope pos) (mLc mit g tt me vs) :=
  PE.by (pe_lc hc hN hi ok hg ht he hs) fun σ H Q h => by
    subst hv
    exact rd_lc hws h
theorem relabel_cf {env : Env} {x : Str} : ∀ {names : List (Str × NameKind)}, (names.lookup x = some .cell ∨ names.lookup x = some .free) →
    let l := (names.map fun (n, k) => if (k == NameKind.free && env.scope.kind == .function && env.kindOf n == some .cell) then (n, NameKind.cell) else (n, k)).lookup x
    l = some .cell ∨ l = some .free
  | [], h => by simp at h
  | (n, k) :: r, h => by
    intro l
    have ih := @relabel_cf env x r
    have hl : l = List.lookup x ((if (k == NameKind.free && env.scope.kind == .function && env.kindOf n == some .cell) = true then (n, NameKind.cell) else (n, k)) :: (r.map fun (n, k) => if (k == NameKind.free && env.scope.kind == .function && env.kindOf n == some .cell) then (n, NameKind.cell) else (n, k))) := rfl
    rw [hl]
    cases hx : x == n with
    | true =>
      simp only [List.lookup_cons, hx] at h
      by_cases hc : (k == NameKind.free && env.scope.kind == .function && env.kindOf n == some .cell) = true
      · rw [if_pos hc]; simp only [List.lookup_cons, hx]; exact .inl trivial
      · rw [if_neg hc]; simp only [List.lookup_cons, hx]; exact h
    | false =>
      simp only [List.lookup_cons, hx] at h
      by_cases hc : (k == NameKind.free && env.scope.kind == .function && env.kindOf n == some .cell) = true
      · rw [if_pos hc]; simp only [List.lookup_cons, hx]; exact ih h
      · rw [if_neg hc]; simp only [List.lookup_cons, hx]; exact ih h
/-- a block within a block -/
theorem blkOk_in {scope' : Scope} {own' : List (Str × Nat)} {s : Shared} {H : Hp} {C : Addr} {cl : List (Str × Addr)} {fp : List Addr} (ok : BlkOk X.N scope scope' own') : BlkOk (X.blk s H scope (compEnvC scope cl C X.env) fp).N (X.blk s H scope (compEnvC scope cl C X.env) fp).env.scope scope' own' :=
  ⟨ok.kind, ok.uniq, ok.ix, fun y hy e => relabel_cf (ok.free y hy e), ok.own⟩
theorem ls_setLc (j : Nat) {vs : List Nat} {y : Str} {py spos : Pos} (hc : X.calm = true) (hN : X.N.Nodup) (hi : LI X κ W tg iter mit) (ok : BlkOk X.N X.env.scope scope own) (hv : own.map (·.2) = vs) (hws : ∀ w ∈ ws, w ∈ vs)
    (hg : ∀ (s : Shared) (H : Hp) (C : Addr) (cl : List (Str × Addr)) (fp : List Addr), LG (X.blk s H scope (compEnvC scope cl C X.env) fp) κ W0 tg g ws) (ht : ∀ (s : Shared) (H : Hp) (C : Addr) (cl : List (Str × Addr)) (fp : List Addr), LTs (X.blk s H scope (compEnvC scope cl C X.env) fp) κ W0 ifs tt)
    (he : ∀ (s : Shared) (H : Hp) (C : Addr) (cl : List (Str × Addr)) (fp : List Addr), LE (X.blk s H scope (compEnvC scope cl C X.env) fp) κ W0 elt me) (hy : X.N[j]? = some y := by rfl) (hyl : X.env.scope.names.lookup y = some .local := by rfl)
    (hsw : swapsWith (.ListComp elt [⟨tg, iter, ifs, 0⟩] scope pos) (some (.Name y py)) spos.line X.env = pure true := by exact sw_true rfl rfl rfl (by decide +kernel)) (hs : ∀ x, foldedSetIterable iter X.env x = pure x := by intro _; rfl) :
    LS X κ W (.Assign [.Name y py] (.ListComp elt [⟨tg, iter, ifs, 0⟩] scope pos) spos) (msSet j (mLc mit g tt me vs)) :=
  PS.by (L2.ps_setLc hc hN hy hyl hsw hi ok hg ht he hs) fun D σ H ⟨ρ, σd, s, R, hE, h⟩ => by
    subst hv
    exact rd_lc (X := X) (Q := fun x H1 => gName j x σ H1 D.nx) hws ⟨ρ, σd, s, R, hE, (FinS.st h R hE).mono fun d ρ1 s1 H1 x1 R1 q v hv => q ρ1 H1 _ Step.refl R1 ((hE.later R x1).set hv j)⟩
end

/-! ### what is walked -/
section
variable {X : Cx} {κ : Kap} {W : WX} {pos : Pos} {tg e a b : Expr} {me ma mb : ME}
theorem it_tup {ρ : List Addr} {H : Hp} {l : List Dv} {vs : List V} {p : Addr} (h : SqT X.K H p vs) (r : VRs X.K κ ρ H l vs) : ItOk X.K κ ρ H ⟨l, []⟩ (Itt X.K p) := fun ρ1 H1 s kp R _ => by
  have h1 := SqT.kp kp h
  have r1 := VRs.kp kp _ _ r
  refine ⟨fun i x e => ?_, fun i hi => ⟨vs, h1, by rw [r1.length]; exact hi⟩⟩
  obtain ⟨v, e1, e2⟩ := r1.get e
  refine ⟨⟨vs, v, h1, e1⟩, fun v' H' y => ?_⟩
  obtain ⟨rfl, y⟩ := y
  have := y vs h1
  rw [e1] at this; cases this
  exact ⟨Step.refl, R, e2⟩
theorem SqI.list {K : PySem.W.Frag} {H : Hp} {p : Addr} {vs : List V} (h : SqI K H p vs) : SqL K H p vs := by
  rcases h with ⟨o, h⟩ | h
  · exact .inl (.inr ⟨o, h⟩)
  · exact .inr h
theorem it_clst {ρ : List Addr} {H : Hp} {l : List Dv} {vs : List V} {p : Addr} (h : SqI X.K H p vs) (r : VRs X.K κ ρ H l vs) : ItOk X.K κ ρ H ⟨l, []⟩ (Itl X.K p) := fun ρ1 H1 s kp R _ => by
  have h1 : SqL X.K H1 p vs := SqI.list (SqI.kp kp h)
  have r1 := VRs.kp kp _ _ r
  refine ⟨fun i x e => ?_, fun i hi => ⟨vs, h1, by rw [r1.length]; exact hi⟩⟩
  obtain ⟨v, e1, e2⟩ := r1.get e
  refine ⟨⟨vs, v, h1, e1⟩, fun v' H' y => ?_⟩
  obtain ⟨rfl, y⟩ := y
  have := y vs h1
  rw [e1] at this; cases this
  exact ⟨Step.refl, R, e2⟩
theorem it_loc {ρ : List Addr} {H : Hp} {l : List Dv} {n : Nat} {p : Addr} (hp : ρ[n]? = some p) : ItOk X.K κ ρ H ⟨l, [(n, l)]⟩ (Itl X.K p) := fun ρ1 H1 s kp R st => by
  obtain ⟨vs, e, r1⟩ := R.obj n p _ (kp.ix n p hp) st.1
  have h1 : SqL X.K H1 p vs := .of e
  refine ⟨fun i x e => ?_, fun i hi => ⟨vs, h1, by rw [r1.length]; exact hi⟩⟩
  obtain ⟨v, e1, e2⟩ := r1.get e
  refine ⟨⟨vs, v, h1, e1⟩, fun v' H' y => ?_⟩
  obtain ⟨rfl, y⟩ := y
  have := y vs h1
  rw [e1] at this; cases this
  exact ⟨Step.refl, R, e2⟩
theorem it_str {ρ : List Addr} {H : Hp} {x : Str} : ItOk X.K κ ρ H ⟨x.cps.toList.map fun c => .str ⟨#[c]⟩, []⟩ (Its x) := fun ρ1 H1 s kp R st => by
  refine ⟨fun i d e => ?_, fun i hi => by show x.cps.size ≤ i; simpa using hi⟩
  rw [List.getElem?_map] at e
  cases q : x.cps.toList[i]? with
  | none => rw [q] at e; cases e
  | some c =>
    rw [q] at e
    have hl := (List.getElem?_eq_some_iff.mp q).1
    refine ⟨by show i < x.cps.size; simpa using hl, fun v H' y => ?_⟩
    obtain ⟨rfl, c', h1, rfl⟩ := y
    have h2 : x.cps[i]? = some c := by simpa using q
    rw [h1] at h2; cases h2
    cases e
    exact ⟨Step.refl, R, by simp only [VR]⟩
theorem it_rng {ρ : List Addr} {H : Hp} {lo : Int} {n : Nat} : ItOk X.K κ ρ H ⟨rngI lo n, []⟩ (Itr lo n) := fun ρ1 H1 s kp R st => by
  have len : (rngI lo n).length = n := by simp [rngI]
  refine ⟨fun i d e => ?_, fun i hi => by rw [← len]; exact hi⟩
  have hl := (List.getElem?_eq_some_iff.mp e).1
  rw [len] at hl
  have e' : d = .int (lo + i) := by
    unfold rngI at e
    rw [List.getElem?_map, List.getElem?_range hl] at e
    exact (Option.some.inj e).symm
  subst e'
  refine ⟨hl, fun v H' y => ?_⟩
  obtain ⟨rfl, rfl⟩ := y
  exact ⟨Step.refl, R, by simp only [VR]⟩
/-- a list, a tuple or a text -/
def iAny (K : PySem.W.Frag) (tl : TE) : TI := fun σ H R => tl σ H fun x H1 => (∃ a, x = .ref a ∧ (∃ xs, SqL K H1 a xs) ∧ R (Itl K a) H1) ∨ (∃ a, x = .ref a ∧ (∃ xs, SqT K H1 a xs) ∧ R (Itt K a) H1) ∨ (∃ z, x = .str z ∧ R (Its z) H1)
theorem pi_any {l : Expr} {tl : TE} (hl : PE X l tl) : PI X tg l (iAny X.K tl) := by
  refine ⟨fun pins s σ H R I h => ?_⟩
  refine thn (hl.run pins s σ H _ I h) fun v s1 ⟨x, H1, I1, r1, q1⟩ => ?_
  rcases q1 with ⟨a, e, ⟨xs, hq⟩, q⟩ | ⟨a, e, ⟨xs, hq⟩, q⟩ | ⟨y, e, q⟩
  · subst e
    cases r1
    obtain ⟨its, rv, p, hz⟩ := I1.list hq
    refine wpAny_pyIter_list p.isList ?_
    refine ⟨s1.heap.objs.size, [s1.heap.objs.size], _, _, H1, rfl, I1.kept (t' := s1.toks) fun b o e => Heap.get?_push_of_some _ e, turn_list a _, ⟨_, Heap.get?_push_size _ rfl, rfl, rfl⟩, fun b hb => ?_, q⟩
    have e : b = s1.heap.objs.size := by simpa using hb
    subst e
    exact I1.fpOk (Nat.le_refl _) (I1.hok.fresh (Nat.le_refl _))
  · subst e
    cases r1
    obtain ⟨its, rv, p, hz⟩ := I1.tuple hq
    refine wpAny_pyIter_tuple (show s1.heap.IsTuple a its.toArray from p) ?_
    refine ⟨s1.heap.objs.size, [s1.heap.objs.size], _, _, H1, rfl, I1.kept (t' := s1.toks) fun b o e => Heap.get?_push_of_some _ e, turn_tuple a _, ⟨_, Heap.get?_push_size _ rfl, rfl, rfl⟩, fun b hb => ?_, q⟩
    have e : b = s1.heap.objs.size := by simpa using hb
    subst e
    exact I1.fpOk (Nat.le_refl _) (I1.hok.fresh (Nat.le_refl _))
  · subst e
    obtain ⟨t, rfl⟩ := r1
    cases ha : y.cps.all (· < 128)
    · exact wpAny_pyIter_wide ha (pi_one (tk := s1.toks) I1 _ (turn_str _ y t "str_iterator" (.inr rfl)) ⟨_, Heap.get?_push_size _ rfl, rfl, rfl⟩ q)
    · exact wpAny_pyIter_ascii ha (pi_one (tk := s1.toks) I1 _ (turn_str _ y t "str_ascii_iterator" (.inl rfl)) ⟨_, Heap.get?_push_size _ rfl, rfl, rfl⟩ q)
theorem li_any (he : LE X κ W e me) : LI X κ W tg e (miSeq me) :=
  PI.by (pi_any he) fun σ H Q ⟨ρ, σd, s, R, hE, h⟩ => ⟨ρ, σd, s, R, hE, (Fin.bind h).mono fun d ρ1 s1 H1 x1 R1 q v hv => by
    cases d with
    | tup l =>
      obtain ⟨p, vs, e1, e2, e3⟩ := VR.tupE hv
      exact .inr (.inl ⟨p, e1, ⟨vs, e2⟩, q ρ1 H1 Step.refl R1 _ (it_tup e2 e3)⟩)
    | clst l =>
      simp only [VR] at hv
      obtain ⟨p, vs, e1, e2, e3⟩ := hv
      exact .inl ⟨p, e1, ⟨vs, SqI.list e2⟩, q ρ1 H1 Step.refl R1 _ (it_clst e2 e3)⟩
    | str x => exact .inr (.inr ⟨x, hv.str, q ρ1 H1 Step.refl R1 _ it_str⟩)
    | loc n =>
      unfold itSeq at q
      simp only at q
      cases e : s1[n]? with
      | none => rw [e] at q; exact q.elim
      | some o =>
        rw [e] at q
        cases o with
        | lst l =>
          obtain ⟨p, e1, e2, vs, e3, _⟩ := R1.loc hv e
          exact .inl ⟨p, e2, ⟨vs, .of e3⟩, q ρ1 H1 Step.refl R1 _ (it_loc e1)⟩
        | _ => exact q.elim
    | _ => exact q.elim⟩
theorem li_rng1 {p : Pos} (hg : Gl X "range") (hm : X.mg "range" = none) (ha : LE X κ W a ma) (hs : starEach [a] X.env = [(false, eval a X.env)] := by rfl) (hs' : starEach [a] X.env = (false, eval a X.env) :: starEach [] X.env := by rfl) : LI X κ W tg (.Call (.Name "range" p) [a] [] pos) (miRng1 ma) :=
  PI.by (pi_range1 hg hm (pa_cons ha pa_nil hs') hs) fun σ H Q ⟨ρ, σd, s, R, hE, h⟩ => ⟨ρ, σd, s, R, hE, (Fin.bind h).mono fun d ρ1 s1 H1 x1 R1 q v hv => by
    cases d with
    | int j =>
      simp only at q
      by_cases hj : -(2 ^ 62) ≤ j ∧ j < 2 ^ 62
      · rw [if_pos hj] at q
        exact ⟨j, by rw [hv.int], hj.1, hj.2, q ρ1 H1 Step.refl R1 _ it_rng⟩
      · rw [if_neg hj] at q; exact q.elim
    | _ => exact q.elim⟩
theorem li_rng2 {p : Pos} (hg : Gl X "range") (hm : X.mg "range" = none) (ha : LE X κ W a ma) (hb : LE X κ W b mb) (hs : starEach [a, b] X.env = [(false, eval a X.env), (false, eval b X.env)] := by rfl) (hs2 : starEach [b] X.env = [(false, eval b X.env)] := by rfl) (hs' : starEach [a, b] X.env = (false, eval a X.env) :: starEach [b] X.env := by rfl) (hs2' : starEach [b] X.env = (false, eval b X.env) :: starEach [] X.env := by rfl) :
    LI X κ W tg (.Call (.Name "range" p) [a, b] [] pos) (miRng2 ma mb) :=
  PI.by (pi_range2 hg hm (pa_cons ha (pa_cons hb pa_nil hs2') hs') hs hs2) fun σ H Q ⟨ρ, σd, s, R, hE, h⟩ => ⟨ρ, σd, s, R, hE, (Fin.bind h).mono fun d ρ1 s1 H1 x1 R1 q v hv => ⟨ρ1, σd, s1, R1, hE.later R x1, (Fin.bind q).mono fun d2 ρ2 s2 H2 x2 R2 q2 v2 hv2 => by
    cases d with
    | int i =>
      cases d2 with
      | int j =>
        simp only at q2
        by_cases hj : -(2 ^ 62) ≤ i ∧ i < 2 ^ 62 ∧ -(2 ^ 62) ≤ j ∧ j < 2 ^ 62
        · rw [if_pos hj] at q2
          exact ⟨i, j, by rw [hv.int, hv2.int], hj, q2 ρ2 H2 Step.refl R2 _ it_rng⟩
        · rw [if_neg hj] at q2; exact q2.elim
      | _ => exact q2.elim
    | _ => cases d2 <;> exact q2.elim⟩⟩
end

/-! ### a def -/
section
variable {P : Program} {w : World} {K : PySem.W.Frag} {mg : Str → Option Value} {base : Heap} {κ : Kap}
/-- a def's promise where nothing is raised -/
def spF0 (K : PySem.W.Frag) (κ : Kap) (n : Nat) (F : MF) : Sp := fun vs H Q _ => vs.length = n ∧ ∃ ρ ds s, Rel K κ ρ H s ∧ VRs K κ ρ H ds vs ∧ Fin K κ W0 ρ [] H (F ds s) fun d ρ' _ H' => ∀ v, VR K κ ρ' H' d v → Q v H'
theorem er_start {ρ : List Addr} {H : Hp} {ds : List Dv} {vs : List V} {N : List Str} (h : VRs K κ ρ H ds vs) : ER K κ ρ H (mStart N.length ds) (L2.start N vs) := by
  have hl := h.length
  refine ⟨by unfold mStart L2.start; simp [hl], fun i d e => ?_⟩
  unfold mStart at e
  by_cases hi : i < ds.length
  · rw [List.getElem?_append_left (by simpa using hi), List.getElem?_map] at e
    cases q : ds[i]? with
    | none => rw [q] at e; cases e
    | some d' =>
      rw [q] at e; cases e
      obtain ⟨v, e1, e2⟩ := h.get q
      exact ⟨v, by unfold L2.start; rw [List.getElem?_append_left (by simp [hl]; exact hi), List.getElem?_map, e1]; rfl, e2⟩
  · rw [List.getElem?_append_right (by simpa using hi), List.getElem?_replicate] at e
    split at e <;> cases e
theorem fn_ok {x qual : Str} {st : Stmt} {f : Addr} {fd : FuncData} {N ps : List Str} {k : Nat} {m : MS} (F : Fun K x qual st f fd) (S : FnScope N ps (defScope st))
    (hb : ∀ (cdv : Value) (A : Around) (outer : List Env) (s : Shared) (H : Hp) (E : XK), Room k (A.deeper (envOfC qual (defScope st) s.heap.objs.size f cdv)) → LSs (cxOf CX0 P w K mg base N qual (defScope st) f cdv A outer s H E).nox κ W0 (defBody st) m) :
    FnOk P w K mg base CX0 (k + 1) f fd ps (spF0 K κ ps.length (mFun ps.length N.length m)) := by
  refine F.ok S (fun vs H Q E h => h.1) fun cdv A outer s H vs Q E hr h => ?_
  obtain ⟨hl, ρ, ds, st', R, hv, h⟩ := h
  refine ⟨_, hb cdv A outer s H E hr, ρ, mStart N.length ds, st', R, er_start hv, ?_⟩
  unfold mFun at h
  rw [if_pos (by rw [← hv.length]; exact hl)] at h
  cases e : m (mStart N.length ds) st' with
  | nx σ1 s1 => rw [e] at h; exact fun ρ' H' σ' x R hE => h ρ' H' x R _ (by simp only [VR])
  | rt d s1 => rw [e] at h; exact fun ρ' H' v x R hv => h ρ' H' x R v hv
  | er z σ1 s1 => rw [e] at h; exact fun ρ' H' σ' c d x R hE q => h ρ' H' c d x R q
  | ct σ1 s1 => rw [e] at h; exact h.elim
  | bk σ1 s1 => rw [e] at h; exact h.elim
  | bad => rw [e] at h; exact h.elim
section
variable {X : Cx} {W : WX} {e : Expr} {es : List Expr} {ms : List ME} {pos : Pos}
theorem le_call0 {k : Nat} {f : Addr} {fd : FuncData} {ps : List Str} {n : Nat} {F : MF} {x : Str} {p : Pos} (G : FnOk X.prog X.w X.K X.mg X.base CX0 k f fd ps (spF0 X.K κ n F)) (hr : Room k X.A) (hg : Gl X x) (hm : X.mg x = some (.ref f))
    (hk : PySem.W.keepIn X.K (.ref f) = true) (hb : Binds X.K fd ps []) (ha : LA X κ W (e :: es) ms) (hn : ms.length = n := by rfl) (hdb : (x == ("__debug__" : Str)) = false := by decide) (he : starEach (e :: es) X.env = (false, eval e X.env) :: starEach es X.env := by rfl)
    (hpl : (backTo pos (starEach es X.env)).any (·.1) = false := by rfl) : LE X κ W (.Call (.Name x p) (e :: es) [] pos) (mCall (noE F) ms) :=
  PE.by (pe_call (E := E0) G hr hg hm hk hb .nil pass0 ha hdb he hpl) fun σ H Q ⟨ρ, σd, s, R, hEr, q⟩ => ⟨ρ, σd, s, R, hEr, (Fin.args (Fin.bind q)).mono fun ds ρ1 s1 H1 x1 R1 ⟨hnn, h1⟩ vs hvs => by
    show spF0 X.K κ n F (vs ++ []) H1 Q E0
    rw [List.append_nil]
    exact ⟨by rw [hvs.length, hnn, hn], ρ1, ds, s1, R1, hvs, Fin.noEr h1⟩⟩
end
end
end Mid
/-! MidOp: operators, built-ins, methods of the plain model. -/
namespace Mid
open PySem Classical
noncomputable section
def line : Nat := 2 ^ 24
def seqOf (d : Dv) (s : Mst) : Option (List Dv) := match d with
  | .tup l => some l
  | .clst l => some l
  | .loc n => match s[n]? with
    | some (.lst l) => some l
    | _ => none
  | _ => none
def mNew (o : MO) (s : Mst) : Rm Dv := .ok (.loc s.length) (s ++ [o])
def ofO {α : Type} (o : Option α) (s : Mst) : Rm α := match o with
  | some d => .ok d s
  | none => .bad
@[simp] theorem ofO_some {α : Type} (d : α) (s : Mst) : ofO (some d) s = .ok d s := rfl
@[simp] theorem ofO_none {α : Type} (s : Mst) : (ofO none s : Rm α) = .bad := rfl
/-! ### arithmetic -/
def oII (f : Int → Int → Option Dv) : Dv → Dv → Mst → Rm Dv := fun x y s => match x, y with
  | .int i, .int j => ofO (f i j) s
  | _, _ => .bad
def oSub := oII fun i j => some (.int (i - j))
def oMod := oII fun i j => @ite _ (0 < j) (Classical.propDecidable _) (some (.int (i % j))) (none)
def oFdiv := oII fun i j => @ite _ (0 < j ∧ j.natAbs.log2 < 9000) (Classical.propDecidable _) (some (.int (i / j))) (none)
def oPow := oII fun i j => @ite _ (0 ≤ j ∧ j ≤ 1000000 ∧ i.natAbs < 2 ^ 64) (Classical.propDecidable _) (some (.int (i ^ j.toNat))) (none)
def oLt := oII fun i j => some (.bl (decide (i < j)))
def oLe := oII fun i j => some (.bl (decide (i ≤ j)))
def oGt := oII fun i j => some (.bl (decide (j < i)))
def oGe := oII fun i j => some (.bl (decide (j ≤ i)))
def uNeg : Dv → Mst → Rm Dv := fun x s => match x with
  | .int i => .ok (.int (-i)) s
  | _ => .bad
def oAdd : Dv → Dv → Mst → Rm Dv := fun x y s => match x, y with
  | .int i, .int j => .ok (.int (i + j)) s
  | .str a, .str b => @ite _ (a.length + b.length ≤ 2 ^ 24) (Classical.propDecidable _) (.ok (.str (a ++ b)) s) (.bad)
  | .tup l, .tup m => @ite _ (l.length + m.length ≤ 2 ^ 24) (Classical.propDecidable _) (.ok (.tup (l ++ m)) s) (.bad)
  | .loc a, .loc b => match s[a]?, s[b]? with
    | some (.lst l), some (.lst m) => @ite _ (l.length + m.length ≤ 2 ^ 24) (Classical.propDecidable _) (mNew (.lst (l ++ m)) s) (.bad)
    | _, _ => .bad
  | _, _ => .bad
def oMul : Dv → Dv → Mst → Rm Dv := fun x y s => match x, y with
  | .int i, .int j => @ite _ (i.natAbs.log2 + j.natAbs.log2 < 1000000) (Classical.propDecidable _) (.ok (.int (i * j)) s) (.bad)
  | .loc a, .int k => match s[a]? with
    | some (.lst l) => @ite _ (-(2 ^ 63) ≤ k ∧ k < 2 ^ 63 ∧ l.length * k.toNat ≤ 2 ^ 24) (Classical.propDecidable _) (mNew (.lst (List.replicate k.toNat l).flatten) s) (.bad)
    | _ => .bad
  | .tup l, .int k => @ite _ (l ≠ [] ∧ -1000 ≤ k ∧ k ≤ 1000 ∧ l.length ≤ 1000) (Classical.propDecidable _) (.ok (.tup (List.replicate k.toNat l).flatten) s) (.bad)
  | _, _ => .bad
/-! ### comparisons -/
def oCmpD (f : PyData → PyData → Bool) : Dv → Dv → Mst → Rm Dv := fun x y s => match dat s 66 x, dat s 66 y with
  | some a, some b => if SeqAt.shaped a = true ∧ SeqAt.shaped b = true then .ok (.bl (f a b)) s else .bad
  | _, _ => .bad
def oEq := oCmpD PyData.eqv
def oNe := oCmpD fun a b => !PyData.eqv a b
def isNonQ : Dv → Bool
  | .non => true
  | _ => false
def oIsN : Dv → Dv → Mst → Rm Dv := fun x y s => match y with
  | .non => .ok (.bl (isNonQ x)) s
  | .bl b => match x with
    | .bl a => .ok (.bl (decide (a = b))) s
    | _ => .bad
  | _ => .bad
def oNotN : Dv → Dv → Mst → Rm Dv := fun x y s => match y with
  | .non => .ok (.bl (!isNonQ x)) s
  | .bl b => match x with
    | .bl a => .ok (.bl (!decide (a = b))) s
    | _ => .bad
  | _ => .bad
/-! ### keys -/
abbrev KeyQ := Sum Int Str
def keyQ : Dv → Option KeyQ
  | .int i => some (.inl i)
  | .str x => some (.inr x)
  | _ => none
def kval {α : Type} [DecidableEq α] (kvs : List (α × Dv)) (k : α) : Option Dv := (kvs.find? fun kv => decide (kv.1 = k)).map (·.2)
def kput {α : Type} [DecidableEq α] (kvs : List (α × Dv)) (k : α) (v : Dv) : List (α × Dv) :=
  if (kvs.any fun kv => decide (kv.1 = k)) = true then kvs.map (fun kv => if kv.1 = k then (kv.1, v) else kv) else kvs ++ [(k, v)]
def kputs {α : Type} [DecidableEq α] (kvs more : List (α × Dv)) : List (α × Dv) := more.foldl (fun acc kv => kput acc kv.1 kv.2) kvs
/-- in: x in y -/
def inQ (x y : Dv) (s : Mst) : Option Bool := match y with
  | .loc n => match s[n]? with
    | some (.lst l) => match dat s 66 x, datA (dat s 65) l with
      | some a, some bs => if SeqAt.shaped a = true ∧ SeqAt.shaped (.list bs) = true then some (bs.any fun z => PyData.eqv z a) else none
      | _, _ => none
    | some (.dK kvs) => match keyQ x with
      | some k => some (kval kvs k).isSome
      | none => if kvs.isEmpty then (keyN x).map fun _ => false else none
    | some (.dN kvs) => (keyN x).map fun k => (kval kvs k).isSome
    | _ => none
  | .clst l => match dat s 66 x, datA (dat s 65) l with
      | some a, some bs => if SeqAt.shaped a = true ∧ SeqAt.shaped (.list bs) = true then some (bs.any fun z => PyData.eqv z a) else none
      | _, _ => none
  | .tup l => match dat s 66 x, datA (dat s 65) l with
      | some a, some bs => if SeqAt.shaped a = true ∧ SeqAt.shaped (.tuple bs) = true then some (bs.any fun z => PyData.eqv z a) else none
      | _, _ => none
  | .str z => match x with
    | .str ⟨⟨[c]⟩⟩ => some (decide (c ∈ z.cps.toList))
    | _ => none
  | _ => none
def oIn : Dv → Dv → Mst → Rm Dv := fun x y s => ofO ((inQ x y s).map fun b => .bl b) s
def oNotIn : Dv → Dv → Mst → Rm Dv := fun x y s => ofO ((inQ x y s).map fun b => .bl (!b)) s
/-! ### places -/
def ixQ (n : Nat) (i : Int) : Option Nat := if 0 ≤ i then (if i < n then some i.toNat else none) else if -(n : Int) ≤ i then some (i + n).toNat else none
def atQ {α : Type} (xs : List α) (i : Int) : Option α := (ixQ xs.length i).bind fun j => xs[j]?
def getQ (x i : Dv) (s : Mst) : Option Dv := match x with
  | .str z => match i with
    | .int j => @ite _ (z.length ≤ 2 ^ 24) (Classical.propDecidable _) ((atQ z.cps.toList j).map fun c => .str ⟨#[c]⟩) (none)
    | _ => none
  | .tup l => match i with
    | .int j => atQ l j
    | _ => none
  | .clst l => match i with
    | .int j => atQ l j
    | _ => none
  | .loc n => match s[n]? with
    | some (.lst l) => match i with
      | .int j => atQ l j
      | _ => none
    | some (.dK kvs) => match keyQ i with
      | some k => kval kvs k
      | none => none
    | some (.dN kvs) => (keyN i).bind fun k => kval kvs k
    | _ => none
  | _ => none
def oGet : Dv → Dv → Mst → Rm Dv := fun x i s => ofO (getQ x i s) s
def putQ (x i v : Dv) (s : Mst) : Option Mst := match x with
  | .loc n => match s[n]? with
    | some (.lst l) => match i with
      | .int j => (ixQ l.length j).map fun k => s.set n (.lst (l.set k v))
      | _ => none
    | some (.dK kvs) => match keyQ i with
      | some k => @ite _ (kvs.length < 2 ^ 24) (Classical.propDecidable _) (some (s.set n (.dK (kput kvs k v)))) (none)
      | none => if kvs.isEmpty then (keyN i).map fun k => s.set n (.dN [(k, v)]) else none
    | some (.dN kvs) => (keyN i).bind fun k => @ite _ (kvs.length < 2 ^ 24) (Classical.propDecidable _) (some (s.set n (.dN (kput kvs k v)))) (none)
    | _ => none
  | _ => none
def oPut : Dv → Dv → Dv → Mst → Rm Unit := fun x i v s => match putQ x i v s with
  | some s' => .ok () s'
  | none => .bad
/-- how a slice's bound counts -/
def sIxQ (n d : Nat) : Option Int → Nat
  | none => d
  | some v => if v < 0 then (v + (n : Int)).toNat else min v.toNat n
def cutQ {α : Type} (xs : List α) (lo hi : Option Int) : List α := (xs.drop (sIxQ xs.length 0 lo)).take (sIxQ xs.length xs.length hi - sIxQ xs.length 0 lo)
def slQ (x : Dv) (lo hi : Option Int) (s : Mst) : Rm Dv := match x with
  | .tup l => .ok (.tup (cutQ l lo hi)) s
  | .clst l => mNew (.lst (cutQ l lo hi)) s
  | .loc n => match s[n]? with
    | some (.lst l) => mNew (.lst (cutQ l lo hi)) s
    | _ => .bad
  | _ => .bad
abbrev MO' := Men → Mst → Rm (Option Int)
def poN : MO' := fun _ s => .ok none s
def poS (m : ME) : MO' := fun σ s => (m σ s).bind fun d s1 => match d with
  | .int i => .ok (some i) s1
  | _ => .bad
def mSlice (m : ME) (lo hi : MO') : ME := fun σ s => (m σ s).bind fun x s1 => (lo σ s1).bind fun l s2 => (hi σ s2).bind fun h s3 => slQ x l h s3
/-! ### dicts written -/
def dispQ : List (Dv × Dv) → Option (List (KeyQ × Dv))
  | [] => some []
  | (k, v) :: r => match keyQ k, dispQ r with
    | some q, some l => some ((q, v) :: l)
    | _, _ => none
def mPairs : List (ME × ME) → Men → Mst → Rm (List (Dv × Dv))
  | [], _, s => .ok [] s
  | (k, v) :: r, σ, s => (k σ s).bind fun a s1 => (v σ s1).bind fun b s2 => (mPairs r σ s2).bind fun l s3 => .ok ((a, b) :: l) s3
/-- {k: v, ..}, at most fifteen; {} too -/
def mDisp (ps : List (ME × ME)) : ME := fun σ s => (mPairs ps σ s).bind fun l s1 => match dispQ l with
  | some kvs => mNew (.dK (kputs [] kvs)) s1
  | none => .bad
/-! ### built-ins -/
def f1 (f : Dv → Mst → Rm Dv) : MF := fun ds s => match ds with
  | [x] => f x s
  | _ => .bad
def f2 (f : Dv → Dv → Mst → Rm Dv) : MF := fun ds s => match ds with
  | [x, y] => f x y s
  | _ => .bad
def lenQ (x : Dv) (s : Mst) : Option Nat := match x with
  | .str z => @ite _ (z.length ≤ 2 ^ 24) (Classical.propDecidable _) (some z.length) (none)
  | .tup l => some l.length
  | .clst l => some l.length
  | .loc n => match s[n]? with
    | some (.lst l) => some l.length
    | some (.dK kvs) => some kvs.length
    | some (.dN kvs) => some kvs.length
    | _ => none
  | _ => none
def bLen : MF := f1 fun x s => ofO ((lenQ x s).map fun n => .int n) s
def bTuple : MF := f1 fun x s => ofO ((seqOf x s).map .tup) s
def bList : MF := f1 fun x s => match seqOf x s with
  | some l => mNew (.lst l) s
  | none => .bad
def intsQ : List Dv → Option (List Int)
  | [] => some []
  | .int i :: r => (intsQ r).map (i :: ·)
  | _ => none
def strsQ : List Dv → Option (List Str)
  | [] => some []
  | .str i :: r => (strsQ r).map (i :: ·)
  | _ => none
def blsQ : List Dv → Option (List Bool)
  | [] => some []
  | .bl i :: r => (blsQ r).map (i :: ·)
  | _ => none
def bAny : MF := f1 fun x s => ofO (((lstQ x s).bind blsQ).map fun bs => .bl (bs.any id)) s
where lstQ (d : Dv) (s : Mst) : Option (List Dv) := match d with
  | .clst l => some l
  | .loc n => match s[n]? with
    | some (.lst l) => some l
    | _ => none
  | _ => none
def bAll : MF := f1 fun x s => ofO (((bAny.lstQ x s).bind blsQ).map fun bs => .bl (bs.all id)) s
/-- ints put in their order -/
def insI (i : Int) : List Int → List Int
  | [] => [i]
  | j :: r => if i ≤ j then i :: j :: r else j :: insI i r
def srtI : List Int → List Int
  | [] => []
  | i :: r => insI i (srtI r)
def insS (x : Str) : List Str → List Str
  | [] => [x]
  | y :: r => if y.cps.toList < x.cps.toList then y :: insS x r else x :: y :: r
def srtS : List Str → List Str
  | [] => []
  | x :: r => insS x (srtS r)
def srtQ (l : List Dv) : Option (List Dv) := match intsQ l with
  | some ns => some ((srtI ns).map .int)
  | none => match strsQ l with
    | some xs => if xs.length < 64 then some ((srtS xs).map .str) else none
    | none => none
def keyD : KeyQ → Dv
  | .inl i => .int i
  | .inr x => .str x
def bSorted : MF := f1 fun x s => match bAny.lstQ x s with
  | some l => match srtQ l with
    | some r => mNew (.lst r) s
    | none => .bad
  | none => match x with
    | .loc n => match s[n]? with
      | some (.dK kvs) => match srtQ (kvs.map fun kv => keyD kv.1) with
        | some r => mNew (.lst r) s
        | none => .bad
      | _ => .bad
    | _ => .bad
def pairQ : Dv → Option (KeyQ × Dv)
  | .tup [k, v] => match keyQ k with
    | some q => some (q, v)
    | none => none
  | _ => none
def pairsQ : List Dv → Option (List (KeyQ × Dv))
  | [] => some []
  | d :: r => match pairQ d, pairsQ r with
    | some p, some l => some (p :: l)
    | _, _ => none
/-- dict of a list, of a tuple, of pairs -/
def bDict : MF := f1 fun x s => match (seqOf x s).bind pairsQ with
  | some kvs => mNew (.dK (kputs [] kvs)) s
  | none => .bad
def bInt : MF := f1 fun x s => match x with
  | .int i => .ok (.int i) s
  | .bl b => .ok (.int (if b then 1 else 0)) s
  | _ => .bad
def tyQ (x : Dv) (s : Mst) : String := match x with
  | .non => "NoneType"
  | .bl _ => "bool"
  | .int _ => "int"
  | .str _ => "str"
  | .tup _ => "tuple"
  | .clst _ => "list"
  | .loc n => match s[n]? with
    | some (.lst _) => "list"
    | some (.dK _) => "dict"
    | some (.dN _) => "dict"
    | _ => "?"
  | _ => "?"
def kinds : List String := ["NoneType", "bool", "int", "str", "tuple", "list", "dict"]
def asked : List String := ["bool", "int", "str", "tuple", "list", "dict"]
/-- no dict of tuples -/
def noN (x : Dv) (s : Mst) : Bool := match x with
  | .loc n => match s[n]? with
    | some (.dN _) => false
    | _ => true
  | _ => true
def isiQ (t c : String) : Bool := t == c || (t == "bool" && c == "int")
def bIsi : MF := f2 fun x c s => match c with
  | .ty n => if tyQ x s ∈ kinds ∧ n ∈ asked ∧ noN x s = true then .ok (.bl (isiQ (tyQ x s) n)) s else .bad
  | _ => .bad
/-! ### methods -/
def mMeth (T : String) (F : MF) (m : ME) (ms : List ME) : ME := fun σ s => (m σ s).bind fun x s1 => if tyQ x s1 = T then (mArgs ms σ s1).bind fun ds s2 => F (x :: ds) s2 else .bad
def onLst (f : List Dv → List Dv → Option (List Dv × Dv)) : MF := fun ds s => match ds with
  | .loc n :: r => match s[n]? with
    | some (.lst l) => match f l r with
      | some (l', d) => .ok d (s.set n (.lst l'))
      | none => .bad
    | _ => .bad
  | _ => .bad
def tAppend : MF := onLst fun l r => match r with
  | [d] => @ite _ (l.length < 2 ^ 24) (Classical.propDecidable _) (some (l ++ [d], .non)) (none)
  | _ => none
def tPop : MF := onLst fun l r => match r with
  | [] => match l[l.length - 1]? with
    | some d => some (l.dropLast, d)
    | none => none
  | [.int i] => match ixQ l.length i with
    | some k => match l[k]? with
      | some d => @ite _ (-(2 ^ 63) ≤ i ∧ i < 2 ^ 63) (Classical.propDecidable _) (some (l.eraseIdx k, d)) (none)
      | none => none
    | none => none
  | _ => none
def tClear : MF := onLst fun _ r => match r with
  | [] => some ([], .non)
  | _ => none
/-- the place of the first equal one -/
def findE (a : PyData) : List PyData → Option Nat
  | [] => none
  | b :: r => if PyData.eqv b a then some 0 else (findE a r).map (· + 1)
def tIndex : MF := f2 fun x y s => match bAny.lstQ x s with
  | some l => match dat s 66 y, datA (dat s 65) l with
    | some a, some bs => if SeqAt.shaped a = true ∧ SeqAt.shaped (.list bs) = true then ofO ((findE a bs).map fun n => .int n) s else .bad
    | _, _ => .bad
  | none => .bad
def tCount : MF := f2 fun x y s => match bAny.lstQ x s with
  | some l => match dat s 66 y, datA (dat s 65) l with
    | some a, some bs => if SeqAt.shaped a = true ∧ SeqAt.shaped (.list bs) = true then .ok (.int (bs.countP fun z => PyData.eqv z a : Nat)) s else .bad
    | _, _ => .bad
  | none => .bad
def tUpdate : MF := f2 fun x y s => match x, y with
  | .loc n, .loc m => match s[n]?, s[m]? with
    | some (.dK kvs), some (.dK more) => @ite _ (n ≠ m ∧ kvs.length + more.length < 2 ^ 24) (Classical.propDecidable _) (.ok .non (s.set n (.dK (kputs kvs more)))) (.bad)
    | _, _ => .bad
  | _, _ => .bad
def tJoin : MF := f2 fun x y s => match x, (seqOf y s).bind strsQ with
  | .str z, some ys => @ite _ ((ys.map (·.length)).sum + ys.length * z.length ≤ 16777216) (Classical.propDecidable _) (.ok (.str (Str.join z ys)) s) (.bad)
  | _, _ => .bad
/-- what a dict holds at a key -/
def dgQ (x i : Dv) (s : Mst) : Option (Option Dv) := match x with
  | .loc n => match s[n]? with
    | some (.dK kvs) => match keyQ i with
      | some k => some (kval kvs k)
      | none => if kvs.isEmpty then (keyN i).map fun _ => none else none
    | some (.dN kvs) => (keyN i).map fun k => kval kvs k
    | _ => none
  | _ => none
/-- d.get(k), d.get(k, x) -/
def tGet : MF := fun ds s => match ds with
  | [x, i] => ofO ((dgQ x i s).map fun o => o.getD .non) s
  | [x, i, e] => ofO ((dgQ x i s).map fun o => o.getD e) s
  | _ => .bad
/-- d.setdefault(k, x) -/
def setdQ (x i e : Dv) (s : Mst) : Rm Dv := match x with
  | .loc n => match s[n]? with
    | some (.dK kvs) => @ite _ (kvs.length < 2 ^ 24) (Classical.propDecidable _) (match keyQ i with
      | some k => (match kval kvs k with
        | some d => .ok d s
        | none => .ok e (s.set n (.dK (kput kvs k e))))
      | none => if kvs.isEmpty then (match keyN i with
        | some k => .ok e (s.set n (.dN [(k, e)]))
        | none => .bad) else .bad) .bad
    | some (.dN kvs) => @ite _ (kvs.length < 2 ^ 24) (Classical.propDecidable _) (match keyN i with
      | some k => (match kval kvs k with
        | some d => .ok d s
        | none => .ok e (s.set n (.dN (kput kvs k e))))
      | none => .bad) .bad
    | _ => .bad
  | _ => .bad
def tSetd : MF := fun ds s => match ds with
  | [x, i, e] => setdQ x i e s
  | _ => .bad
def bSum : MF := f1 fun x s => match (bAny.lstQ x s).bind intsQ with
  | some ns => .ok (.int ns.sum) s
  | none => .bad
def bMax2 : MF := f2 fun x y s => match x, y with
  | .int i, .int j => .ok (.int (if j > i then j else i)) s
  | _, _ => .bad
def bMin2 : MF := f2 fun x y s => match x, y with
  | .int i, .int j => .ok (.int (if j < i then j else i)) s
  | _, _ => .bad
/-- repr of a tuple, of a list -/
def bRepr : MF := f1 fun x s => match dat s 1500 x with
  | some a => (match x with
    | .tup _ => @ite _ (a.showable = true ∧ a.hasDict = false ∧ a.depth ≤ 700 ∧ a.shown.length ≤ 2 ^ 24) (Classical.propDecidable _) (.ok (.str a.shown) s) .bad
    | _ => .bad)
  | none => .bad
/-- each of them once, as they are met -/
def metI : List Int → List Int → List Int
  | acc, [] => acc
  | acc, i :: r => if i ∈ acc then metI acc r else metI (acc ++ [i]) r
/-- len(set(..)), of whole numbers -/
def bLenSet : MF := f1 fun x s => match (bAny.lstQ x s).bind intsQ with
  | some ns => @ite _ (ns.length < 4000) (Classical.propDecidable _) (.ok (.int (metI [] ns).length) s) .bad
  | none => .bad
/-- each of them once, as they are met -/
def metG {α : Type} [DecidableEq α] : List α → List α → List α
  | acc, [] => acc
  | acc, i :: r => if i ∈ acc then metG acc r else metG (acc ++ [i]) r
/-- sorted(set(..)), of whole numbers, of texts -/
def bSortSet : MF := f1 fun x s => match bAny.lstQ x s with
  | some l => match intsQ l with
    | some ns => @ite _ (ns.length < 4000) (Classical.propDecidable _) (mNew (.lst ((srtI (metG [] ns)).map .int)) s) .bad
    | none => match strsQ l with
      | some xs => @ite _ (xs.length < 64) (Classical.propDecidable _) (mNew (.lst ((srtS (metG [] xs)).map .str)) s) .bad
      | none => .bad
  | none => .bad
/-- list(range(..)) -/
def bListRg (a b : ME) : ME := fun σ s => (a σ s).bind fun x s1 => (b σ s1).bind fun y s2 => match x, y with
  | .int i, .int j => @ite _ (-(2 ^ 62) ≤ i ∧ i < 2 ^ 62 ∧ -(2 ^ 62) ≤ j ∧ j < 2 ^ 62 ∧ (j - i).toNat ≤ 2 ^ 24) (Classical.propDecidable _) (mNew (.lst (rngI i (j - i).toNat)) s2) (.bad)
  | _, _ => .bad
/-! ### instances -/
/-- x.f, where x is of one of some classes -/
def oFld (cs : List Nat) (f : Str) : Dv → Mst → Rm Dv := fun x s => match x with
  | .loc n => match s[n]? with
    | some (.ins C fs) => @ite _ (C ∈ cs) (Classical.propDecidable _) (ofO (fs.lookup f) s) (.bad)
    | _ => .bad
  | _ => .bad
/-- attributes put -/
def putA (f : Str) (v : Dv) : List (Str × Dv) → List (Str × Dv)
  | [] => [(f, v)]
  | (g, u) :: r => if g = f then (g, v) :: r else (g, u) :: putA f v r
def msFldC (cs : List Nat) (f : Str) (mo me : ME) : MS := fun σ s => (me σ s).st σ fun v s1 => (mo σ s1).st σ fun x s2 => match x with
  | .loc n => match s2[n]? with
    | some (.ins C fs) => @ite _ (C ∈ cs ∧ fs.length < 1000) (Classical.propDecidable _) (.nx σ (s2.set n (.ins C (putA f v fs)))) .bad
    | _ => .bad
  | _ => .bad
/-- o.m(..), a def of the class C -/
def mMethC (C : Nat) (m : Str) (F : MF) (o : ME) (ms : List ME) : ME := fun σ s => (o σ s).bind fun x s1 => match x with
  | .loc n => match s1[n]? with
    | some (.ins C' fs) => @ite _ (C' = C ∧ fs.lookup m = none) (Classical.propDecidable _) ((mArgs ms σ s1).bind fun ds s2 => (F (.loc n :: ds) s2).noEr) .bad
    | _ => .bad
  | _ => .bad
/-! ### exceptions -/
/-- behind an except suite: its name's slot is empty; no exception leaves a suite -/
def Sm.clr (i : Nat) : Sm → Sm
  | .nx σ s => .nx (σ.set i none) s
  | .ct σ s => .ct (σ.set i none) s
  | .bk σ s => .bk (σ.set i none) s
  | .rt d s => .rt d s
  | .er _ _ _ => .bad
  | .bad => .bad
def Sm.noEr : Sm → Sm
  | .er _ _ _ => .bad
  | r => r
def Xv.ks (e : Xv) : List Str := (e.fs.getD []).map (·.1)
def Xv.vs (e : Xv) : List Dv := (e.fs.getD []).map (·.2)
/-- try: b; except .. as x (slot i): h; hit: whether the clause takes an exception of that class -/
def tryAs (i : Nat) (b : MS) (hit : Nat → Option Bool) (h : Nat → Option Nat → Nat → MS) : MS := fun σ s => match b σ s with
  | .er e σ1 s1 => match hit e.cls with
    | some true => @ite _ (∀ a dd, dd.isSome = e.fs.isSome → (h a dd e.cls (σ1.set i (some (.fix a dd e.ks e.vs))) s1).clr i = (h 0 (e.fs.map fun _ => 0) e.cls (σ1.set i (some (.fix 0 (e.fs.map fun _ => 0) e.ks e.vs))) s1).clr i) (Classical.propDecidable _)
        ((h 0 (e.fs.map fun _ => 0) e.cls (σ1.set i (some (.fix 0 (e.fs.map fun _ => 0) e.ks e.vs))) s1).clr i) .bad
    | some false => .er e σ1 s1
    | none => .bad
  | r => r
/-- try: b; except ..: h -/
def tryOnly (b : MS) (hit : Nat → Option Bool) (h : MS) : MS := fun σ s => match b σ s with
  | .er e σ1 s1 => match hit e.cls with
    | some true => (h σ1 s1).noEr
    | some false => .er e σ1 s1
    | none => .bad
  | r => r
/-- isinstance(e, ..), e the exception that the suite holds (slot i, at a) -/
def mIsE (i a : Nat) (d : Option Nat) (o : Option Bool) : ME := fun σ s => match σ[i]? with
  | some (some (.fix a' dd _ _)) => if a' = a ∧ dd = d then ofO (o.map .bl) s else .bad
  | _ => .bad
/-- e.f, e the exception that the suite holds; its class c has to be cn -/
def mXf (i a : Nat) (d : Option Nat) (c cn : Nat) (f : Str) : ME := fun σ s => match σ[i]? with
  | some (some (.fix a' dd ks l)) => if a' = a ∧ dd = d ∧ d.isSome = true ∧ c = cn then ofO ((ks.zip l).lookup f) s else .bad
  | _ => .bad
/-- raise C(..), C without an __init__ of its own -/
def msRaise0 (C : Nat) : MS := fun σ s => .er ⟨C, none⟩ σ s
/-- raise C(e), C's __init__ keeps what is given under f -/
def msRaiseI (C : Nat) (f : Str) (ok : Dv → Bool) (m : ME) : MS := fun σ s => (m σ s).st σ fun d s1 => if ok d then .er ⟨C, some [(f, d)]⟩ σ s1 else .bad
def smallI : Dv → Bool
  | .int i => @decide (i.natAbs.log2 < 1920 ∧ 10 + (Str.ofString (toString i)).length ≤ 2 ^ 24) (Classical.propDecidable _)
  | _ => false
end
end Mid
/-! MidOrd: the order that sorted makes. -/
namespace Mid
open PySem Classical
/-! ### orders -/
theorem perm_one {α : Type} {r : α → α → Prop} (anti : ∀ a b, r a b → r b a → a = b) : ∀ {l m : List α}, l.Perm m → l.Pairwise r → m.Pairwise r → l = m
  | [], m, hp, _, _ => (List.nil_perm.mp hp).symm
  | a :: l, [], hp, _, _ => absurd hp.length_eq (by simp)
  | a :: l, b :: m, hp, h1, h2 => by
    have e : a = b := by
      have ha : a ∈ b :: m := hp.mem_iff.mp List.mem_cons_self
      have hb : b ∈ a :: l := hp.mem_iff.mpr List.mem_cons_self
      rcases List.mem_cons.mp ha with e | ha
      · exact e
      · rcases List.mem_cons.mp hb with e | hb
        · exact e.symm
        · exact anti a b (List.rel_of_pairwise_cons h1 hb) (List.rel_of_pairwise_cons h2 ha)
    subst e
    rw [perm_one anti (List.perm_cons _ |>.mp hp) (List.pairwise_cons.mp h1).2 (List.pairwise_cons.mp h2).2]
theorem insI_perm (i : Int) : ∀ l : List Int, (insI i l).Perm (i :: l)
  | [] => .refl _
  | j :: r => by
    unfold insI
    split
    · exact .refl _
    · exact ((insI_perm i r).cons j).trans (.swap i j r)
theorem srtI_perm : ∀ l : List Int, (srtI l).Perm l
  | [] => .refl _
  | i :: r => (insI_perm i (srtI r)).trans ((srtI_perm r).cons i)
theorem insI_rising (i : Int) : ∀ l : List Int, l.Pairwise (· ≤ ·) → (insI i l).Pairwise (· ≤ ·)
  | [], _ => by simp [insI]
  | j :: r, h => by
    unfold insI
    have h' := List.pairwise_cons.mp h
    split
    · rename_i hij
      refine List.pairwise_cons.mpr ⟨fun x hx => ?_, h⟩
      rcases List.mem_cons.mp hx with rfl | hx
      · exact hij
      · exact Int.le_trans hij (h'.1 x hx)
    · rename_i hij
      refine List.pairwise_cons.mpr ⟨fun x hx => ?_, insI_rising i r h'.2⟩
      rcases List.mem_cons.mp ((insI_perm i r).mem_iff.mp hx) with rfl | hx
      · omega
      · exact h'.1 x hx
theorem srtI_rising : ∀ l : List Int, (srtI l).Pairwise (· ≤ ·)
  | [] => .nil
  | i :: r => insI_rising i _ (srtI_rising r)
theorem srtI_one {l m : List Int} (hp : m.Perm l) (h : m.Pairwise (· ≤ ·)) : m = srtI l :=
  perm_one (fun _ _ => Int.le_antisymm) (hp.trans (srtI_perm l).symm) h (srtI_rising l)
/-- texts: not behind -/
def leS (x y : Str) : Prop := ¬ y.cps.toList < x.cps.toList
theorem leS_anti (x y : Str) (h : leS x y) (g : leS y x) : x = y := by
  have e : x.cps.toList = y.cps.toList := List.le_antisymm h g
  cases x; cases y
  simp only [Str.mk.injEq]
  exact Array.toList_inj.mp e
theorem leS_trans {x y z : Str} (h : leS x y) (g : leS y z) : leS x z := List.le_trans (α := Nat) h g
theorem leS_total {x y : Str} (h : ¬ leS x y) : leS y x := fun g => absurd (List.lt_trans (Classical.not_not.mp h) g) (List.lt_irrefl _)
theorem insS_perm (i : Str) : ∀ l : List Str, (insS i l).Perm (i :: l)
  | [] => .refl _
  | j :: r => by
    unfold insS
    split
    · exact ((insS_perm i r).cons j).trans (.swap i j r)
    · exact .refl _
theorem srtS_perm : ∀ l : List Str, (srtS l).Perm l
  | [] => .refl _
  | i :: r => (insS_perm i (srtS r)).trans ((srtS_perm r).cons i)
theorem insS_rising (i : Str) : ∀ l : List Str, l.Pairwise leS → (insS i l).Pairwise leS
  | [], _ => by simp [insS]
  | j :: r, h => by
    unfold insS
    have h' := List.pairwise_cons.mp h
    split
    · rename_i hij
      refine List.pairwise_cons.mpr ⟨fun x hx => ?_, insS_rising i r h'.2⟩
      rcases List.mem_cons.mp ((insS_perm i r).mem_iff.mp hx) with rfl | hx
      · exact leS_total (x := x) (y := j) (fun z => z hij)
      · exact h'.1 x hx
    · rename_i hij
      refine List.pairwise_cons.mpr ⟨fun x hx => ?_, h⟩
      rcases List.mem_cons.mp hx with rfl | hx
      · exact hij
      · exact leS_trans hij (h'.1 x hx)
theorem srtS_rising : ∀ l : List Str, (srtS l).Pairwise leS
  | [] => .nil
  | i :: r => insS_rising i _ (srtS_rising r)
end Mid
/-! Mid5: operators, built-ins, methods: lifted. -/
namespace Mid
open PySem PySem.Spec L2 Classical
section
variable {K : PySem.W.Frag} {κ : Kap} {W : WX} {ρ : List Addr} {σ : L2.St} {H : Hp} {s : Mst} {Q : VK} {p : Addr}
/-- what an operator's end has to give -/
abbrev EndV (K : PySem.W.Frag) (κ : Kap) (W : WX) (ρ : List Addr) (σ : L2.St) (H : Hp) (r : Rm Dv) (Q : VK) : Prop := Fin K κ W ρ σ H r fun d ρ' _ H' => ∀ v, VR K κ ρ' H' d v → Q v H'
theorem EndV.ok {d : Dv} (h : EndV K κ W ρ σ H (.ok d s) Q) (R : Rel K κ ρ H s) {v : V} (hv : VR K κ ρ H d v) : Q v H := h ρ H Step.refl R v hv
theorem EndV.new {o : MO} {ho : HO} (h : EndV K κ W ρ σ H (mNew o s) Q) (R : Rel K κ ρ H s) (np : H p = none) (hO : OR K κ (ρ ++ [p]) (upd H p ho) p o) : Q (.ref p) (upd H p ho) :=
  h _ _ (Step.new np) (R.new np hO) _ (by rw [← R.len]; exact VR.last)
theorem EndV.newL {l : List Dv} {vs : List V} (h : EndV K κ W ρ σ H (mNew (.lst l) s) Q) (R : Rel K κ ρ H s) (np : H p = none) (hv : VRs K κ ρ H l vs) : Q (.ref p) (upd H p (.lst vs)) :=
  h.new R np ⟨vs, upd_same, VRs.later R (Step.new np) _ _ hv⟩
theorem EndV.tup {l : List Dv} {vs : List V} (h : EndV K κ W ρ σ H (.ok (.tup l) s) Q) (R : Rel K κ ρ H s) (np : H p = none) {its : List Value} (hv : VRs K κ ρ H l vs) : Q (.ref p) (upd H p (.frz (tupO its) (.tup vs))) :=
  h ρ _ (Step.lay np) (R.lay np) _ (by simp only [VR]; exact ⟨p, vs, rfl, .inl ⟨its, upd_same⟩, VRs.later R (Step.lay np) _ _ hv⟩)
theorem EndV.put {n : Nat} {o : MO} {ho : HO} {d : Dv} (h : EndV K κ W ρ σ H (.ok d (s.set n o)) Q) (R : Rel K κ ρ H s) (e : ρ[n]? = some p) (hO : OR K κ ρ (upd H p ho) p o) {v : V} (hv : VR K κ ρ (upd H p ho) d v) : Q v (upd H p ho) :=
  h ρ _ (Step.put e) (R.put e hO) v hv
theorem VR.clstE {l : List Dv} {v : V} (h : VR K κ ρ H (.clst l) v) : ∃ a vs, v = .ref a ∧ SqI K H a vs ∧ VRs K κ ρ H l vs := by simpa only [VR] using h
theorem VR.tyE {n : String} {v : V} (h : VR K κ ρ H (.ty n) v) : v = .ty n := by simpa only [VR] using h
/-- a list as it is read -/
theorem Rel.lstE (R : Rel K κ ρ H s) {d : Dv} {v : V} (h : VR K κ ρ H d v) {l : List Dv} (e : bAny.lstQ d s = some l) : ∃ a vs, v = .ref a ∧ SqL K H a vs ∧ VRs K κ ρ H l vs := by
  cases d with
  | clst m =>
    cases e
    obtain ⟨a, vs, e1, e2, e3⟩ := h.clstE
    exact ⟨a, vs, e1, SqI.list e2, e3⟩
  | loc n =>
    unfold bAny.lstQ at e
    simp only at e
    cases q : s[n]? with
    | none => rw [q] at e; cases e
    | some o =>
      rw [q] at e
      cases o with
      | lst m =>
        cases e
        obtain ⟨a, _, e2, vs, e3, e4⟩ := R.loc h q
        exact ⟨a, vs, e2, .of e3, e4⟩
      | _ => cases e
  | _ => cases e
theorem seqOf_eq {d : Dv} {l : List Dv} (e : seqOf d s = some l) : d = .tup l ∨ bAny.lstQ d s = some l := by
  cases d with
  | tup m => cases e; exact .inl rfl
  | clst m => cases e; exact .inr rfl
  | loc n => exact .inr e
  | _ => cases e

/-! ### data as a whole -/
mutual
theorem dat_ok (R : Rel K κ ρ H s) : ∀ (n : Nat) (d : Dv) (v : V) (a : PyData), VR K κ ρ H d v → dat s n d = some a → Dp K H v a
  | 0, _, _, _, _, e => by cases e
  | n + 1, d, v, a, h, e => by
    unfold dat at e
    cases d with
    | non => cases e; rw [h.non]; exact .non
    | bl b => cases e; rw [h.bl]; exact .bl b
    | int b => cases e; rw [h.int]; exact .int b
    | str b => cases e; rw [h.str]; exact .str b
    | tup l =>
      simp only at e
      cases q : datA (dat s n) l with
      | none => rw [q] at e; cases e
      | some as =>
        rw [q] at e; cases e
        obtain ⟨p, vs, rfl, e2, e3⟩ := h.tupE
        exact .tup e2 (datA_ok R n l vs as e3 q)
    | clst l =>
      simp only at e
      cases q : datA (dat s n) l with
      | none => rw [q] at e; cases e
      | some as =>
        rw [q] at e; cases e
        obtain ⟨p, vs, rfl, e2, e3⟩ := h.clstE
        exact .lst (SqI.list e2) (datA_ok R n l vs as e3 q)
    | loc k =>
      simp only at e
      cases q0 : s[k]? with
      | none => rw [q0] at e; cases e
      | some o =>
        rw [q0] at e
        cases o with
        | lst l =>
          simp only at e
          cases q : datA (dat s n) l with
          | none => rw [q] at e; cases e
          | some as =>
            rw [q] at e; cases e
            obtain ⟨p, _, rfl, vs, e2, e3⟩ := R.loc h q0
            exact .lst (.of e2) (datA_ok R n l vs as e3 q)
        | _ => cases e
    | ptup _ => cases e
    | fix _ => cases e
    | ty _ => cases e
theorem datA_ok (R : Rel K κ ρ H s) : ∀ (n : Nat) (ds : List Dv) (vs : List V) (as : List PyData), VRs K κ ρ H ds vs → datA (dat s n) ds = some as → DpAll K H vs as
  | n, [], vs, as, h, e => by
    simp only [VRs] at h
    subst h
    cases e
    exact .nil
  | n, d :: ds, vs, as, h, e => by
    simp only [VRs] at h
    obtain ⟨v, r, rfl, h1, h2⟩ := h
    unfold datA at e
    cases q1 : dat s n d with
    | none => rw [q1] at e; cases e
    | some a =>
      rw [q1] at e
      cases q2 : datA (dat s n) ds with
      | none => rw [q2] at e; cases e
      | some r =>
        rw [q2] at e
        cases e
        exact .cons (dat_ok R n d v a h1 q1) (datA_ok R n ds _ r h2 q2)
end
/-- a list's data -/
theorem lst_dat (R : Rel K κ ρ H s) {d : Dv} {v : V} (h : VR K κ ρ H d v) {l : List Dv} {as : List PyData} {n : Nat} (e : bAny.lstQ d s = some l) (q : datA (dat s n) l = some as) : Dp K H v (.list as) := by
  obtain ⟨a, vs, rfl, h1, h2⟩ := R.lstE h e
  exact .lst h1 (datA_ok R n l vs as h2 q)
end

section
variable {X : Cx} {κ : Kap}
/-! ### ints -/
theorem L_ii {C : Int → Int → Prop} {g : Int → Int → V} {f : Int → Int → Option Dv} (hf : ∀ i j d, f i j = some d → C i j ∧ ∀ (ρ : List Addr) (H : Hp), VR X.K κ ρ H d (g i j)) : OpL X κ (rI C g) (oII f) := by
  intro W ρ σ H s x y dx dy Q R hx hy h
  cases dx with
  | int i =>
    cases dy with
    | int j =>
      unfold oII at h
      simp only at h
      cases e : f i j with
      | none => rw [e] at h; exact h.elim
      | some d =>
        rw [e] at h
        exact ⟨i, j, hx.int, hy.int, (hf i j d e).1, EndV.ok h R ((hf i j d e).2 ρ H)⟩
    | _ => exact h.elim
  | _ => cases dy <;> exact h.elim
theorem L_ii0 {g : Int → Int → V} {f : Int → Int → Option Dv} (hf : ∀ i j d, f i j = some d → ∀ (ρ : List Addr) (H : Hp), VR X.K κ ρ H d (g i j)) : OpL X κ (rI0 g) (oII f) := by
  intro W ρ σ H s x y dx dy Q R hx hy h
  obtain ⟨i, j, a, b, _, q⟩ := L_ii (X := X) (κ := κ) (C := fun _ _ => True) (g := g) (f := f) (fun i j d e => ⟨trivial, hf i j d e⟩) W ρ σ H s x y dx dy Q R hx hy h
  exact ⟨i, j, a, b, q⟩
theorem L_sub : OpL X κ (rI0 fun i j => .int (i - j)) oSub := L_ii0 fun i j d e ρ H => by cases e; simp only [VR]
theorem L_lt : OpL X κ (rI0 fun i j => .bl (decide (i < j))) oLt := L_ii0 fun i j d e ρ H => by cases e; simp only [VR]
theorem L_le : OpL X κ (rI0 fun i j => .bl (decide (i ≤ j))) oLe := L_ii0 fun i j d e ρ H => by cases e; simp only [VR]
theorem L_gt : OpL X κ (rI0 fun i j => .bl (decide (j < i))) oGt := L_ii0 fun i j d e ρ H => by cases e; simp only [VR]
theorem L_ge : OpL X κ (rI0 fun i j => .bl (decide (j ≤ i))) oGe := L_ii0 fun i j d e ρ H => by cases e; simp only [VR]
theorem L_mod : OpL X κ (rI (fun _ j => 0 < j) fun i j => .int (i % j)) oMod := L_ii fun i j d e => by
  by_cases h : 0 < j
  · rw [if_pos h] at e; cases e; exact ⟨h, fun ρ H => by simp only [VR]⟩
  · rw [if_neg h] at e; cases e
theorem L_fdiv : OpL X κ (rI CDivW fun i j => .int (i / j)) oFdiv := L_ii fun i j d e => by
  by_cases h : 0 < j ∧ j.natAbs.log2 < 9000
  · rw [if_pos h] at e; cases e; exact ⟨h, fun ρ H => by simp only [VR]⟩
  · rw [if_neg h] at e; cases e
theorem L_pow : OpL X κ (rI CPow fun i j => .int (i ^ j.toNat)) oPow := L_ii fun i j d e => by
  by_cases h : 0 ≤ j ∧ j ≤ 1000000 ∧ i.natAbs < 2 ^ 64
  · rw [if_pos h] at e; cases e; exact ⟨h, fun ρ H => by simp only [VR]⟩
  · rw [if_neg h] at e; cases e
theorem L_neg : UnL X κ (rU fun i => .int (-i)) uNeg := by
  intro W ρ σ H s x dx Q R hx h
  cases dx with
  | int i => exact ⟨i, hx.int, EndV.ok h R (by simp only [VR])⟩
  | _ => exact h.elim
/-! ### + and * -/
def rAddA (K : PySem.W.Frag) : R2 := fun x y H Q => (((rI0 fun i j => .int (i + j)) x y H Q ∨ (∃ i j, x = .str i ∧ y = .str j ∧ i.length + j.length ≤ sizeLine ∧ Q (.str (i ++ j)) H)) ∨ rCatD K x y H Q) ∨ rCat x y H Q
theorem or_add : OpR X (binaryOp .Add) (rAddA X.K) := OpR.or (OpR.or (OpR.or op_add op_add_str) op_catD) op_cat
theorem L_add : OpL X κ (rAddA X.K) oAdd := by
  intro W ρ σ H s x y dx dy Q R hx hy h
  unfold oAdd at h
  cases dx with
  | int i =>
    cases dy with
    | int j => exact .inl (.inl (.inl ⟨i, j, hx.int, hy.int, EndV.ok h R (by simp only [VR])⟩))
    | _ => exact h.elim
  | str i =>
    cases dy with
    | str j =>
      simp only at h
      by_cases hl : i.length + j.length ≤ 2 ^ 24
      · rw [if_pos hl] at h
        exact .inl (.inl (.inr ⟨i, j, hx.str, hy.str, hl, EndV.ok h R (by simp only [VR])⟩))
      · rw [if_neg hl] at h; exact h.elim
    | _ => exact h.elim
  | tup l =>
    cases dy with
    | tup m =>
      simp only at h
      by_cases hl : l.length + m.length ≤ 2 ^ 24
      · rw [if_pos hl] at h
        obtain ⟨a, vs, rfl, a2, a3⟩ := hx.tupE
        obtain ⟨b, us, rfl, b2, b3⟩ := hy.tupE
        refine .inl (.inr ⟨a, b, vs, us, rfl, rfl, a2, b2, by rw [a3.length, b3.length]; exact hl, fun e => ?_, fun _ e => ?_, fun _ _ p its np => EndV.tup h R np (a3.append b3)⟩)
        · subst e
          have : l = [] := List.eq_nil_of_length_eq_zero (by rw [← a3.length]; rfl)
          subst this
          exact EndV.ok h R hy
        · subst e
          have : m = [] := List.eq_nil_of_length_eq_zero (by rw [← b3.length]; rfl)
          subst this
          rw [List.append_nil] at h
          exact EndV.ok h R hx
      · rw [if_neg hl] at h; exact h.elim
    | _ => exact h.elim
  | loc a =>
    cases dy with
    | loc b =>
      simp only at h
      cases e1 : s[a]? with
      | none => rw [e1] at h; exact h.elim
      | some o1 =>
        rw [e1] at h
        cases o1 with
        | lst l =>
          cases e2 : s[b]? with
          | none => rw [e2] at h; exact h.elim
          | some o2 =>
            rw [e2] at h
            cases o2 with
            | lst m =>
              simp only at h
              by_cases hl : l.length + m.length ≤ 2 ^ 24
              · rw [if_pos hl] at h
                obtain ⟨p, _, rfl, vs, q1, q2⟩ := R.loc hx e1
                obtain ⟨p', _, rfl, us, r1, r2⟩ := R.loc hy e2
                exact .inr ⟨p, p', vs, us, rfl, rfl, q1, r1, by rw [q2.length, r2.length]; exact hl, fun t nt => EndV.newL h R nt (q2.append r2)⟩
              · rw [if_neg hl] at h; exact h.elim
            | _ => exact h.elim
        | _ => exact h.elim
    | _ => exact h.elim
  | _ => cases dy <;> exact h.elim
theorem VRs.rep {K : PySem.W.Frag} {ρ : List Addr} {H : Hp} {l : List Dv} {vs : List V} (h : VRs K κ ρ H l vs) : ∀ n : Nat, VRs K κ ρ H (List.replicate n l).flatten (List.replicate n vs).flatten
  | 0 => by simpa using VRs.nil
  | n + 1 => by
    rw [List.replicate_succ, List.replicate_succ, List.flatten_cons, List.flatten_cons]
    exact h.append (VRs.rep h n)
def rMulA (K : PySem.W.Frag) : R2 := fun x y H Q => ((rI CMulW fun i j => .int (i * j)) x y H Q ∨ rRep x y H Q) ∨ rRepTD K x y H Q
theorem or_mul : OpR X (binaryOp .Mult) (rMulA X.K) := OpR.or (OpR.or op_mulW op_rep) op_repTD
theorem L_mul : OpL X κ (rMulA X.K) oMul := by
  intro W ρ σ H s x y dx dy Q R hx hy h
  unfold oMul at h
  cases dx with
  | int i =>
    cases dy with
    | int j =>
      simp only at h
      by_cases hl : i.natAbs.log2 + j.natAbs.log2 < 1000000
      · rw [if_pos hl] at h
        exact .inl (.inl ⟨i, j, hx.int, hy.int, hl, EndV.ok h R (by simp only [VR])⟩)
      · rw [if_neg hl] at h; exact h.elim
    | _ => exact h.elim
  | loc a =>
    cases dy with
    | int k =>
      simp only at h
      cases e1 : s[a]? with
      | none => rw [e1] at h; exact h.elim
      | some o1 =>
        rw [e1] at h
        cases o1 with
        | lst l =>
          simp only at h
          by_cases hl : -(2 ^ 63) ≤ k ∧ k < 2 ^ 63 ∧ l.length * k.toNat ≤ 2 ^ 24
          · rw [if_pos hl] at h
            obtain ⟨p, _, rfl, vs, q1, q2⟩ := R.loc hx e1
            exact .inl (.inr ⟨p, k, vs, rfl, hy.int, q1, hl.1, hl.2.1, by rw [q2.length]; exact hl.2.2, fun t nt => EndV.newL h R nt (q2.rep _)⟩)
          · rw [if_neg hl] at h; exact h.elim
        | _ => exact h.elim
    | _ => exact h.elim
  | tup l =>
    cases dy with
    | int k =>
      simp only at h
      by_cases hl : l ≠ [] ∧ -1000 ≤ k ∧ k ≤ 1000 ∧ l.length ≤ 1000
      · rw [if_pos hl] at h
        obtain ⟨p, vs, rfl, e1, e2⟩ := hx.tupD
        refine .inr ⟨p, k, vs, rfl, hy.int, e1, fun z => hl.1 ?_, hl.2.1, hl.2.2.1, by rw [e2.length]; exact hl.2.2.2, fun hk => ?_, fun hk q its hq => ?_⟩
        · have := e2.length; rw [z] at this; exact List.eq_nil_of_length_eq_zero this.symm
        · subst hk
          exact EndV.ok h R (by simp only [VR]; exact ⟨p, vs, rfl, e1, by simpa using e2⟩)
        · exact h ρ _ (Step.lay hq) (R.lay hq) _ (by simp only [VR]; exact ⟨q, _, rfl, .inl ⟨its, upd_same⟩, VRs.later R (Step.lay hq) _ _ (e2.rep _)⟩)
      · rw [if_neg hl] at h; exact h.elim
    | _ => exact h.elim
  | _ => cases dy <;> exact h.elim
/-! ### ==, !=, is -/
theorem L_cmpD {f : PyData → PyData → Bool} {r : R2} (hr : ∀ x y H Q, (∃ d e, Dp X.K H x d ∧ Dp X.K H y e ∧ SeqAt.shaped d = true ∧ SeqAt.shaped e = true ∧ Q (.bl (f d e)) H) → r x y H Q) : OpL X κ r (oCmpD f) := by
  intro W ρ σ H s x y dx dy Q R hx hy h
  unfold oCmpD at h
  cases e1 : dat s 66 dx with
  | none => rw [e1] at h; exact h.elim
  | some a =>
    cases e2 : dat s 66 dy with
    | none => rw [e1, e2] at h; exact h.elim
    | some b =>
      rw [e1, e2] at h
      simp only at h
      by_cases hs : SeqAt.shaped a = true ∧ SeqAt.shaped b = true
      · rw [if_pos hs] at h
        exact hr _ _ _ _ ⟨a, b, dat_ok R 66 dx x a hx e1, dat_ok R 66 dy y b hy e2, hs.1, hs.2, EndV.ok h R (by simp only [VR])⟩
      · rw [if_neg hs] at h; exact h.elim
theorem L_eq : OpL X κ (rEqD X.K) oEq := L_cmpD fun _ _ _ _ h => h
theorem L_ne : OpL X κ (rNeD X.K) oNe := L_cmpD fun _ _ _ _ h => h
def rIs : R2 := fun x y H Q => (y = .non ∧ Q (.bl (decide (x = .non))) H) ∨ ∃ a b : Bool, x = .bl a ∧ y = .bl b ∧ Q (.bl (decide (a = b))) H
def rIsNot : R2 := fun x y H Q => (y = .non ∧ Q (.bl (!decide (x = .non))) H) ∨ ∃ a b : Bool, x = .bl a ∧ y = .bl b ∧ Q (.bl (!decide (a = b))) H
theorem or_is : OpR X (compareOp .Is) rIs := OpR.or op_isN op_is_bl
theorem or_isnot : OpR X (compareOp .IsNot) rIsNot := OpR.or op_notN op_isnot_bl
theorem VR.isNon {K : PySem.W.Frag} {ρ : List Addr} {H : Hp} {d : Dv} {v : V} (h : VR K κ ρ H d v) : decide (v = .non) = isNonQ d := by
  cases d with
  | non => simp only [VR] at h; subst h; rfl
  | bl b => simp only [VR] at h; subst h; rfl
  | int b => simp only [VR] at h; subst h; rfl
  | str b => simp only [VR] at h; subst h; rfl
  | tup l => obtain ⟨a, vs, rfl, _⟩ := h.tupE; rfl
  | ptup l => obtain ⟨a, vs, rfl, _⟩ := h.ptupE; rfl
  | clst l => obtain ⟨a, vs, rfl, _⟩ := h.clstE; rfl
  | loc n => simp only [VR] at h; obtain ⟨a, _, rfl⟩ := h; rfl
  | fix n dd ks l => simp only [VR] at h; rw [h.1.1]; rfl
  | ty n => simp only [VR] at h; subst h; rfl
theorem L_is : OpL X κ rIs oIsN := by
  intro W ρ σ H s x y dx dy Q R hx hy h
  unfold oIsN at h
  cases dy with
  | non => exact .inl ⟨hy.non, by rw [hx.isNon]; exact EndV.ok h R (by simp only [VR])⟩
  | bl b =>
    cases dx with
    | bl a => exact .inr ⟨a, b, hx.bl, hy.bl, EndV.ok h R (by simp only [VR])⟩
    | _ => exact h.elim
  | _ => exact h.elim
theorem L_isnot : OpL X κ rIsNot oNotN := by
  intro W ρ σ H s x y dx dy Q R hx hy h
  unfold oNotN at h
  cases dy with
  | non => exact .inl ⟨hy.non, by rw [hx.isNon]; exact EndV.ok h R (by simp only [VR])⟩
  | bl b =>
    cases dx with
    | bl a => exact .inr ⟨a, b, hx.bl, hy.bl, EndV.ok h R (by simp only [VR])⟩
    | _ => exact h.elim
  | _ => exact h.elim
end
end Mid
/-! MidN: dicts whose keys are tuples, nested too. -/
namespace Mid
open PySem PySem.Spec L2 Classical
mutual
theorem nested_of {h : Heap} : ∀ (d : PyData) (v : Value) (as : List Addr) (k : NestedKey), Reads h v d as → nkP d = some k → NestedIs h k v
  | .none, _, _, _, r, e => by cases r; unfold nkP at e; cases e; exact .none
  | .bool b, _, _, _, r, e => by cases r; unfold nkP at e; cases e; exact .bool rfl
  | .int i, _, _, _, r, e => by cases r; unfold nkP at e; cases e; exact .int _ _
  | .str x, _, _, _, r, e => by cases r; unfold nkP at e; cases e; exact .text _ _
  | .tuple l, _, _, _, r, e => by
    unfold nkP at e
    cases q : nkPs l with
    | none => rw [q] at e; cases e
    | some ks =>
      rw [q] at e
      cases e
      cases r with
      | tuple h1 h2 h3 h4 => exact .tup h1 h2 h3 (nested_all l _ _ _ h4 q)
  | .list l, _, _, _, r, e => by unfold nkP at e; cases e
  | .dict l, _, _, _, r, e => by unfold nkP at e; cases e
theorem nested_all {h : Heap} : ∀ (ds : List PyData) (vs : List Value) (as : List Addr) (ks : List NestedKey), ReadsAll h vs ds as → nkPs ds = some ks → NestedAll h ks vs
  | [], _, _, _, r, e => by cases r; unfold nkPs at e; cases e; exact .nil
  | d :: ds, _, _, _, r, e => by
    unfold nkPs at e
    cases r with
    | cons r1 r2 =>
      cases q1 : nkP d with
      | none => rw [q1] at e; cases e
      | some k =>
        cases q2 : nkPs ds with
        | none => rw [q1, q2] at e; cases e
        | some ks =>
          rw [q1, q2] at e
          cases e
          exact .cons (nested_of d _ _ _ r1 q1) (nested_all ds _ _ _ r2 q2)
end
mutual
/-- what is read without the list of things that change -/
theorem dat_nil {ρ : List Addr} {H : Hp} {K : PySem.W.Frag} {κ : Kap} : ∀ (n : Nat) (d : Dv) (v : V) (a : PyData), VR K κ ρ H d v → dat [] n d = some a → Dp K H v a
  | 0, _, _, _, _, e => by cases e
  | n + 1, d, v, a, h, e => by
    unfold dat at e
    cases d with
    | non => cases e; rw [h.non]; exact .non
    | bl b => cases e; rw [h.bl]; exact .bl b
    | int i => cases e; rw [h.int]; exact .int i
    | str x => cases e; rw [h.str]; exact .str x
    | tup l =>
      simp only at e
      cases q : datA (dat [] n) l with
      | none => rw [q] at e; cases e
      | some ds =>
        rw [q] at e; cases e
        obtain ⟨p, vs, rfl, e2, e3⟩ := VR.tupE h
        exact .tup e2 (datA_nil n l vs ds e3 q)
    | clst l =>
      simp only at e
      cases q : datA (dat [] n) l with
      | none => rw [q] at e; cases e
      | some ds =>
        rw [q] at e; cases e
        obtain ⟨p, vs, rfl, e2, e3⟩ := VR.clstE h
        exact .lst (SqI.list e2) (datA_nil n l vs ds e3 q)
    | loc k => simp at e
    | ptup _ => cases e
    | fix k => cases e
    | ty k => cases e
theorem datA_nil {ρ : List Addr} {H : Hp} {K : PySem.W.Frag} {κ : Kap} : ∀ (n : Nat) (l : List Dv) (vs : List V) (ds : List PyData), VRs K κ ρ H l vs → datA (dat [] n) l = some ds → DpAll K H vs ds
  | _, [], vs, ds, h, e => by
    simp only [VRs] at h; subst h
    unfold datA at e; cases e
    exact .nil
  | n, d :: l, vs, ds, h, e => by
    simp only [VRs] at h
    obtain ⟨v, r, rfl, h1, h2⟩ := h
    unfold datA at e
    cases q1 : dat [] n d with
    | none => rw [q1] at e; cases e
    | some x =>
      cases q2 : datA (dat [] n) l with
      | none => rw [q1, q2] at e; cases e
      | some xs =>
        rw [q1, q2] at e; cases e
        exact .cons (dat_nil n d v x h1 q1) (datA_nil n l r xs h2 q2)
end
/-- the tuple at b is the key k -/
def KeyIs (K : PySem.W.Frag) (H : Hp) (b : Addr) (k : NestedKey) : Prop := ∃ d, Dp K H (.ref b) d ∧ nkP d = some k ∧ k.depth ≤ 8
theorem keyN_ok {ρ : List Addr} {H : Hp} {K : PySem.W.Frag} {κ : Kap} {d : Dv} {v : V} {k : NestedKey} (h : VR K κ ρ H d v) (e : keyN d = some k) : ∃ b, v = .ref b ∧ KeyIs K H b k := by
  cases d with
  | tup l =>
    unfold keyN at e
    simp only at e
    cases q : (dat [] 66 (.tup l)).bind nkP with
    | none => rw [q] at e; cases e
    | some k' =>
      rw [q] at e
      simp only at e
      by_cases hd : k'.depth ≤ 8
      · rw [if_pos hd] at e; cases e
        obtain ⟨d, h1, h2⟩ := Option.bind_eq_some_iff.mp q
        obtain ⟨b, vs, rfl, e2, e3⟩ := VR.tupE h
        exact ⟨b, rfl, d, dat_nil 66 _ _ _ h h1, h2, hd⟩
      · rw [if_neg hd] at e; cases e
  | _ => cases e
section
variable {es : List (NestedKey × Addr × V)} {xs : List (NestedKey × Addr × Value)}
def valE (es : List (NestedKey × Addr × V)) (k : NestedKey) : Option V := (es.find? fun e => decide (e.1 = k)).map (·.2.2)
def putE (es : List (NestedKey × Addr × V)) (k : NestedKey) (b : Addr) (v : V) : List (NestedKey × Addr × V) := if (valE es k).isSome then es.map (fun e => if e.1 = k then (e.1, e.2.1, v) else e) else es ++ [(k, b, v)]
theorem PN.val (r : PN es xs) (k : NestedKey) : RelO (valE es k) ((atKey xs k).map (·.2)) := by
  unfold valE
  induction r with
  | nil => exact True.intro
  | @cons p q ps qs h t ih =>
    obtain ⟨h1, _, h2⟩ := h
    by_cases e : p.1 = k
    · have e' : q.1 = k := h1.symm.trans e
      have b : atKey (q :: qs) k = some q.2 := by simp [atKey, List.find?_cons, e']
      rw [List.find?_cons, decide_eq_true e, b]; exact h2
    · have e' : ¬ q.1 = k := fun z => e (h1.trans z)
      have b : atKey (q :: qs) k = atKey qs k := by simp [atKey, List.find?_cons, e']
      rw [List.find?_cons, decide_eq_false e, b]; exact ih
theorem PN.repl (r : PN es xs) (k : NestedKey) {y : V} {u : Value} (ry : RelV y u) : PN (es.map fun e => if e.1 = k then (e.1, e.2.1, y) else e) (xs.map (putAt k u)) := by
  induction r with
  | nil => exact .nil
  | @cons p q ps qs h t ih =>
    rw [List.map_cons, List.map_cons]
    refine .cons ?_ ih
    obtain ⟨h1, h2, h3⟩ := h
    unfold putAt
    by_cases e : p.1 = k
    · rw [if_pos e, if_pos (h1.symm.trans e)]; exact ⟨h1, h2, ry⟩
    · rw [if_neg e, if_neg fun z => e (h1.trans z)]; exact ⟨h1, h2, h3⟩
theorem PN.put (r : PN es xs) (k : NestedKey) {b : Addr} {y : V} {u : Value} (ry : RelV y u) : PN (putE es k b y) (storedH xs k b u) := by
  have e : (valE es k).isSome = (atKey xs k).isSome := by rw [(r.val k).isSome_eq, Option.isSome_map]
  unfold putE storedH
  rw [e]
  by_cases q : (atKey xs k).isSome = true
  · rw [if_pos q, if_pos q]; exact r.repl k ry
  · rw [if_neg q, if_neg q]; exact Paired.snoc r ⟨rfl, rfl, ry⟩
theorem putE_len (es : List (NestedKey × Addr × V)) (k : NestedKey) (b : Addr) (v : V) : (putE es k b v).length ≤ es.length + 1 := by
  unfold putE
  split <;> simp
theorem PN.keys (r : PN es xs) : xs.map (·.1) = es.map (·.1) := by
  induction r with
  | nil => rfl
  | cons h _ ih => rw [List.map_cons, List.map_cons, ih, h.1]
theorem PN.mem {x : NestedKey × Addr × Value} (r : PN es xs) (hx : x ∈ xs) : ∃ e ∈ es, x.1 = e.1 ∧ x.2.1 = e.2.1 := by
  induction r with
  | nil => cases hx
  | @cons p q ps qs h t ih =>
    rcases List.mem_cons.mp hx with e | hx
    · subst e; exact ⟨p, List.mem_cons_self, h.1.symm, h.2.1.symm⟩
    · obtain ⟨e, he, h'⟩ := ih hx
      exact ⟨e, List.mem_cons_of_mem _ he, h'⟩
theorem mem_putE {e : NestedKey × Addr × V} {k : NestedKey} {b : Addr} {v : V} (h : e ∈ putE es k b v) : (∃ e' ∈ es, e'.1 = e.1 ∧ e'.2.1 = e.2.1) ∨ (e.1 = k ∧ e.2.1 = b) := by
  unfold putE at h
  split at h
  · obtain ⟨e', h1, h2⟩ := List.mem_map.mp h
    refine .inl ⟨e', h1, ?_⟩
    split at h2 <;> subst h2 <;> exact ⟨rfl, rfl⟩
  · rcases List.mem_append.mp h with h | h
    · exact .inl ⟨e, h, rfl, rfl⟩
    · rw [List.mem_singleton.mp h]; exact .inr ⟨rfl, rfl⟩
end
/-- the dict of tuples at a, or an empty one -/
def NDa (w : World) (H : Hp) (a : Addr) (es : List (NestedKey × Addr × V)) : Prop := H a = some (dNO w a es) ∨ (H a = some (.dK []) ∧ es = [])
section
variable {X : Cx} {pins : List (Addr × Obj)} {σ : L2.St} {H : Hp} {s : Shared} {a b : Addr} {es : List (NestedKey × Addr × V)} {k : NestedKey}
theorem key_is (I : Inv X pins σ H s) (h : KeyIs X.K H b k) : (nestedKind X.prog X.w).is s.heap k b := by
  obtain ⟨d, h1, h2, h3⟩ := h
  obtain ⟨as, r⟩ := Dp.reads I d _ (.ref b) h1 rfl
  exact ⟨nested_of d _ _ _ r h2, h3⟩
theorem nda_at (I : Inv X pins σ H s) (h : NDa X.w H a es) (hk : ∀ e ∈ es, KeyIs X.K H e.2.1 e.1) : (a == sysModules) = false ∧ es.length ≤ sizeLine ∧ ∃ xs, PN es xs ∧ s.heap.DictOfH (nestedKind X.prog X.w) a xs := by
  rcases h with h | ⟨h, rfl⟩
  · obtain ⟨⟨h1, h2, h3, xs, o, ds, ep, r, ho, hx, hd, he⟩, _, _⟩ := I.hok a _ h
    refine ⟨h1, h2, xs, r, o, ds, ep, ho, hx, hd, he, fun x hx => ?_, by rw [r.keys]; exact h3⟩
    obtain ⟨e, m, e1, e2⟩ := r.mem hx
    rw [e1, e2]
    exact key_is I (hk e m)
  · obtain ⟨_, h1, vs, r, o, ds, ep, ho, hx, hd, hk', hp, _⟩ := I.hok a _ h
    cases r
    refine ⟨h1, Nat.zero_le _, [], .nil, o, ds, ep, ho, hx, hd, ?_, (fun _ hx => by cases hx), List.nodup_nil⟩
    cases e : ds.toList with
    | nil => rfl
    | cons z zs => rw [e] at hp; cases hp
theorem dNO_ok {P : Program} {w : World} {H' : Hp} {h' : Heap} {xs : List (NestedKey × Addr × Value)} (h1 : (a == sysModules) = false) (h2 : es.length ≤ sizeLine) (r : PN es xs) (dd : h'.DictOfH (nestedKind P w) a xs) : ObjOk P w H' h' a (dNO w a es) := by
  obtain ⟨o, ds, ep, ho, hx, hd, he, _, hn⟩ := dd
  refine ⟨⟨h1, h2, by rw [← r.keys]; exact hn, xs, o, ds, ep, r, ho, hx, hd, he⟩, ⟨o, ho⟩, fun g1 g2 p k => ?_⟩
  obtain ⟨q1, q2, q3, ys, o', ds', ep', t, go, gx, gd, ge⟩ := p
  exact ⟨q1, q2, q3, ys, o', ds', ep', t, k _ go, gx, gd, ge⟩
theorem room8 {A : Around} (hu : A.units + 65 < cLine) : A.in1.units + 8 < cLine := by
  simp only [Around.in1_units]; omega
theorem nda_mut (h : NDa X.w H a es) : Mut (H a) := by
  rcases h with h | ⟨h, _⟩ <;> rw [h] <;> trivial
/-! ### the rules -/
def rGetN (K : PySem.W.Frag) (w : World) : R2 := fun x y H Q => ∃ a b k es v, x = .ref a ∧ y = .ref b ∧ KeyIs K H b k ∧ NDa w H a es ∧ (∀ e ∈ es, KeyIs K H e.2.1 e.1) ∧ valE es k = some v ∧ Q v H
theorem ix_dictN (hu : X.A.units + 65 < cLine) : IxR X (rGetN X.K X.w) := by
  intro value slice pins s σ H x y v u Q I rx ry h hs
  obtain ⟨a, b, k, es, z, rfl, rfl, hk, hd, hks, hv, q⟩ := h
  obtain rfl : v = Value.ref a := rx
  obtain rfl : u = Value.ref b := ry
  obtain ⟨_, _, xs, r, dd⟩ := nda_at I hd hks
  obtain ⟨w', hw, rw'⟩ := RelO.some_of (v := z) (o := (atKey xs k).map (·.2)) (by rw [← hv]; exact r.val k)
  obtain ⟨p, hp, hp2⟩ := Option.map_eq_some_iff.mp hw
  refine PyProof.Rows.tail_any dd.typeIs PySem.F.slot_dict_getitem.lookup (wpAny_getItem_heap (room8 hu) (key_is I hk) dd hp ?_) hs
  rw [hp2]
  exact ⟨z, H, I.tok _, rw', q⟩
def rInN (K : PySem.W.Frag) (w : World) : R2 := fun x y H Q => ∃ a b k es, y = .ref a ∧ x = .ref b ∧ KeyIs K H b k ∧ NDa w H a es ∧ (∀ e ∈ es, KeyIs K H e.2.1 e.1) ∧ Q (.bl (valE es k).isSome) H
def rNotInN (K : PySem.W.Frag) (w : World) : R2 := fun x y H Q => ∃ a b k es, y = .ref a ∧ x = .ref b ∧ KeyIs K H b k ∧ NDa w H a es ∧ (∀ e ∈ es, KeyIs K H e.2.1 e.1) ∧ Q (.bl (!(valE es k).isSome)) H
theorem or_inN (hu : X.A.units + 65 < cLine) : OpR X (compareOp .In) (rInN X.K X.w) := by
  intro pins s σ H x y v u Q I rx ry h
  obtain ⟨a, b, k, es, rfl, rfl, hk, hd, hks, q⟩ := h
  obtain rfl : u = Value.ref a := ry
  obtain rfl : v = Value.ref b := rx
  obtain ⟨h1, _, xs, r, dd⟩ := nda_at I hd hks
  refine wpAny_in_heap (room8 hu) (key_is I hk) h1 dd ?_
  have e := (r.val k).isSome_eq
  rw [Option.isSome_map] at e
  rw [← e]
  exact ⟨.bl _, H, I.tok _, rfl, q⟩
theorem or_notInN (hu : X.A.units + 65 < cLine) : OpR X (compareOp .NotIn) (rNotInN X.K X.w) := by
  intro pins s σ H x y v u Q I rx ry h
  obtain ⟨a, b, k, es, rfl, rfl, hk, hd, hks, q⟩ := h
  obtain rfl : u = Value.ref a := ry
  obtain rfl : v = Value.ref b := rx
  obtain ⟨h1, _, xs, r, dd⟩ := nda_at I hd hks
  refine PyProof.Rows.wpAny_notIn_heap (room8 hu) (key_is I hk) h1 dd ?_
  have e := (r.val k).isSome_eq
  rw [Option.isSome_map] at e
  rw [← e]
  exact ⟨.bl _, H, I.tok _, rfl, q⟩
def rPutN (K : PySem.W.Frag) (w : World) : TSet := fun o i v H Q => ∃ a b k es, o = .ref a ∧ i = .ref b ∧ KeyIs K H b k ∧ NDa w H a es ∧ (∀ e ∈ es, KeyIs K H e.2.1 e.1) ∧ es.length < sizeLine ∧ Q (upd H a (dNO w a (putE es k b v)))
theorem set_dictN (hu : X.A.units + 65 < cLine) : PSet X (rPutN X.K X.w) := by
  intro pins s σ H o i v ov iv u Q I ro ri rv h
  obtain ⟨a, b, k, es, rfl, rfl, hk, hd, hks, hl, q⟩ := h
  obtain rfl : ov = Value.ref a := ro
  obtain rfl : iv = Value.ref b := ri
  obtain ⟨h1, h2, xs, r, dd⟩ := nda_at I hd hks
  have hz : xs.length ≤ sizeLine := by rw [← Paired.length r]; exact h2
  have hl2 : (putE es k b v).length ≤ sizeLine := by have := putE_len es k b v; omega
  refine wpAny_setItem_heap (hsz := hz) (room8 hu) (key_is I hk) dd fun h' dd' hs => ⟨_, ?_, q⟩
  have he : ∃ q, h'.get? a = some q := let ⟨q, _, _, hq, _⟩ := dd'; ⟨q, hq⟩
  exact d_write I (nda_mut hd) hs he (dNO_ok h1 hl2 (r.put k rv) dd')
/-- d.get(k), d.get(k, x) -/
def rDGetN (K : PySem.W.Frag) (w : World) : V → List V → Hp → VK → Prop := fun x xs H Q => ∃ a b k es, x = .ref a ∧ KeyIs K H b k ∧ NDa w H a es ∧ (∀ e ∈ es, KeyIs K H e.2.1 e.1) ∧
  ((xs = [.ref b] ∧ Q ((valE es k).getD .non) H) ∨ ∃ z, xs = [.ref b, z] ∧ Q ((valE es k).getD z) H)
theorem mt_getN (hu : X.A.units + 65 < cLine) : MtR X "dict.get" (rDGetN X.K X.w) := by
  intro pins s σ H x xs v us Q I rx rxs h
  obtain ⟨a, b, k, es, rfl, hk, hd, hks, h⟩ := h
  obtain rfl : v = Value.ref a := rx
  obtain ⟨h1, _, ys, r, dd⟩ := nda_at I hd hks
  rcases h with ⟨rfl, q⟩ | ⟨z, rfl, q⟩
  · obtain ⟨u, rfl, ru⟩ := rxs.one
    obtain rfl : u = Value.ref b := ru
    exact call_meetsIn PySem.F.slot_dict_get dd.typeIs PySem.F.entry_dict_get (PySem.F.args_dict_get_2 _ _) (meetsH_dict_get (nestedKind X.prog X.w) a b h1) ⟨room8 hu, k, ys, key_is I hk, dd, ⟨_, H, I.tok _, (r.val k).getD (show RelV .non Value.none from rfl), q⟩⟩
  · obtain ⟨u, u2, rfl, ru, ru2⟩ := rxs.two
    obtain rfl : u = Value.ref b := ru
    exact call_meetsIn PySem.F.slot_dict_get dd.typeIs PySem.F.entry_dict_get (PySem.F.args_dict_get_3 _ _ _) (meetsH_dict_get_default (nestedKind X.prog X.w) a b h1 u2) ⟨room8 hu, k, ys, key_is I hk, dd, ⟨_, H, I.tok _, (r.val k).getD ru2, q⟩⟩
/-- d.setdefault(k, x) -/
def rSetdN (K : PySem.W.Frag) (w : World) : V → List V → Hp → VK → Prop := fun x xs H Q => ∃ a b k es z, x = .ref a ∧ xs = [.ref b, z] ∧ KeyIs K H b k ∧ NDa w H a es ∧ (∀ e ∈ es, KeyIs K H e.2.1 e.1) ∧ es.length < sizeLine ∧
  (∀ v, valE es k = some v → Q v H) ∧ (valE es k = none → Q z (upd H a (dNO w a (putE es k b z))))
theorem mt_setdN (hu : X.A.units + 65 < cLine) : MtR X "dict.setdefault" (rSetdN X.K X.w) := by
  intro pins s σ H x xs v us Q I rx rxs h
  obtain ⟨a, b, k, es, z, rfl, rfl, hk, hd, hks, hl, q1, q2⟩ := h
  obtain rfl : v = Value.ref a := rx
  obtain ⟨h1, h2, ys, r, dd⟩ := nda_at I hd hks
  obtain ⟨u, u2, rfl, ru, ru2⟩ := rxs.two
  obtain rfl : u = Value.ref b := ru
  have hz : ys.length ≤ sizeLine := by rw [← Paired.length r]; exact h2
  have hl2 : (putE es k b z).length ≤ sizeLine := by have := putE_len es k b z; omega
  refine call_setdefault_heap (hsz := hz) (room8 hu) (key_is I hk) h1 dd (fun p hp => ?_) fun hp h' dd' hs => ?_
  · have e := r.val k
    rw [hp] at e
    cases e2 : valE es k with
    | none => rw [e2] at e; exact (show False from e).elim
    | some v => rw [e2] at e; exact ⟨v, H, I.tok _, e, q1 v e2⟩
  · have e := r.val k
    rw [hp] at e
    cases e2 : valE es k with
    | some v => rw [e2] at e; exact (show False from e).elim
    | none =>
      have he : ∃ q, h'.get? a = some q := let ⟨q, _, _, hq, _⟩ := dd'; ⟨q, hq⟩
      exact ⟨z, _, d_write I (nda_mut hd) hs he (dNO_ok h1 hl2 (r.put k ru2) dd'), ru2, q2 e2⟩
/-- len(d) -/
def rLenN (K : PySem.W.Frag) (w : World) : List V → Hp → VK → Prop := fun xs H Q => ∃ a es, xs = [.ref a] ∧ NDa w H a es ∧ (∀ e ∈ es, KeyIs K H e.2.1 e.1) ∧ Q (.int es.length) H
end
end Mid
/-! Mid6: dicts, places, slices, built-ins. -/
namespace Mid
open PySem PySem.Spec L2 Classical
open PyProof.Rows (tail_any)
section
variable {K : PySem.W.Frag} {κ : Kap} {W : WX} {ρ ρ' : List Addr} {σ : L2.St} {H H' : Hp} {s : Mst} {Q : VK} {p : Addr} {α : Type} [DecidableEq α]
/-- the pairs of a dict -/
def KR (K : PySem.W.Frag) (κ : Kap) (ρ : List Addr) (H : Hp) (kvs : List (α × Dv)) (vs : List (α × V)) : Prop := vs.map (·.1) = kvs.map (·.1) ∧ VRs K κ ρ H (kvs.map (·.2)) (vs.map (·.2))
theorem KR.nil : KR (α := α) K κ ρ H [] [] := ⟨rfl, .nil⟩
theorem KR.cons {k : α} {d : Dv} {v : V} {kvs : List (α × Dv)} {vs : List (α × V)} (h : VR K κ ρ H d v) (r : KR K κ ρ H kvs vs) : KR K κ ρ H ((k, d) :: kvs) ((k, v) :: vs) :=
  ⟨by simp [r.1], .cons h r.2⟩
theorem KR.ind {kvs : List (α × Dv)} {vs : List (α × V)} (r : KR K κ ρ H kvs vs) : (kvs = [] ∧ vs = []) ∨ ∃ k d v l m, kvs = (k, d) :: l ∧ vs = (k, v) :: m ∧ VR K κ ρ H d v ∧ KR K κ ρ H l m := by
  cases kvs with
  | nil =>
    cases vs with
    | nil => exact .inl ⟨rfl, rfl⟩
    | cons _ _ => have := r.1; simp at this
  | cons a l =>
    cases vs with
    | nil => have := r.1; simp at this
    | cons b m =>
      obtain ⟨k, d⟩ := a
      obtain ⟨k', v⟩ := b
      have e := r.1
      simp only [List.map_cons, List.cons.injEq] at e
      obtain ⟨rfl, e⟩ := e
      have h := r.2
      simp only [List.map_cons, VRs] at h
      obtain ⟨v', r', e2, h1, h2⟩ := h
      simp only [List.cons.injEq] at e2
      obtain ⟨rfl, rfl⟩ := e2
      exact .inr ⟨k', d, v, l, m, rfl, rfl, h1, e, h2⟩
theorem KR.kp {kvs : List (α × Dv)} {vs : List (α × V)} (r : KR K κ ρ H kvs vs) (x : Kp ρ H ρ' H') : KR K κ ρ' H' kvs vs := ⟨r.1, VRs.kp x _ _ r.2⟩
theorem KR.length {kvs : List (α × Dv)} {vs : List (α × V)} (r : KR K κ ρ H kvs vs) : vs.length = kvs.length := by
  have := congrArg List.length r.1
  simpa using this
theorem KR.append {kvs ls : List (α × Dv)} {vs ms : List (α × V)} (r : KR K κ ρ H kvs vs) (q : KR K κ ρ H ls ms) : KR K κ ρ H (kvs ++ ls) (vs ++ ms) :=
  ⟨by rw [List.map_append, List.map_append, r.1, q.1], by rw [List.map_append, List.map_append]; exact r.2.append q.2⟩
theorem KR.val {k : α} : ∀ {kvs : List (α × Dv)} {vs : List (α × V)}, KR K κ ρ H kvs vs → (valV vs k).isSome = (kval kvs k).isSome ∧ ∀ d, kval kvs k = some d → ∃ v, valV vs k = some v ∧ VR K κ ρ H d v := by
  intro kvs
  induction kvs with
  | nil =>
    intro vs r
    rcases r.ind with ⟨_, rfl⟩ | ⟨_, _, _, _, _, e, _⟩
    · exact ⟨rfl, fun d e => by cases e⟩
    · cases e
  | cons a l ih =>
    intro vs r
    rcases r.ind with ⟨e, _⟩ | ⟨k', d, v, l', m, e, rfl, h1, h2⟩
    · cases e
    · cases e
      unfold valV kval
      by_cases hk : k' = k
      · subst hk
        simp only [List.find?_cons, decide_true, Option.map_some]
        exact ⟨rfl, fun d' e => by cases e; exact ⟨v, rfl, h1⟩⟩
      · simp only [List.find?_cons, decide_eq_false hk]
        exact ih h2
theorem KR.any {k : α} : ∀ {kvs : List (α × Dv)} {vs : List (α × V)}, KR K κ ρ H kvs vs → (vs.any fun kv => decide (kv.1 = k)) = (kvs.any fun kv => decide (kv.1 = k)) := by
  intro kvs vs r
  have e : ∀ {β : Type} (l : List (α × β)), (l.any fun kv => decide (kv.1 = k)) = (l.map (·.1)).any fun x => decide (x = k) := fun l => by rw [List.any_map]; rfl
  rw [e, e, r.1]
theorem KR.mapPut {k : α} {d : Dv} {v : V} (h : VR K κ ρ H d v) : ∀ {kvs : List (α × Dv)} {vs : List (α × V)}, KR K κ ρ H kvs vs →
    KR K κ ρ H (kvs.map fun kv => if kv.1 = k then (kv.1, d) else kv) (vs.map fun kv => if kv.1 = k then (kv.1, v) else kv) := by
  intro kvs
  induction kvs with
  | nil =>
    intro vs r
    rcases r.ind with ⟨_, rfl⟩ | ⟨_, _, _, _, _, e, _⟩
    · exact .nil
    · cases e
  | cons a l ih =>
    intro vs r
    rcases r.ind with ⟨e, _⟩ | ⟨k', d', v', l', m, e, rfl, h1, h2⟩
    · cases e
    · cases e
      simp only [List.map_cons]
      by_cases hk : k' = k
      · rw [if_pos hk, if_pos hk]; exact .cons h (ih h2)
      · rw [if_neg hk, if_neg hk]; exact .cons h1 (ih h2)
theorem KR.put {k : α} {d : Dv} {v : V} (h : VR K κ ρ H d v) {kvs : List (α × Dv)} {vs : List (α × V)} (r : KR K κ ρ H kvs vs) : KR K κ ρ H (kput kvs k d) (putK vs k v) := by
  unfold kput putK
  rw [r.any]
  split
  · exact r.mapPut h
  · exact r.append (.cons h .nil)
theorem KR.puts {more : List (KeyQ × Dv)} {ms : List (Key × V)} : ∀ {kvs : List (KeyQ × Dv)} {vs : List (Key × V)}, KR K κ ρ H more ms → KR K κ ρ H kvs vs → KR K κ ρ H (kputs kvs more) (mergeK vs ms) := by
  unfold kputs mergeK
  induction more generalizing ms with
  | nil =>
    intro kvs vs q r
    rcases q.ind with ⟨_, rfl⟩ | ⟨_, _, _, _, _, e, _⟩
    · exact r
    · cases e
  | cons a l ih =>
    intro kvs vs q r
    rcases q.ind with ⟨e, _⟩ | ⟨k', d', v', l', m, e, rfl, h1, h2⟩
    · cases e
    · cases e
      simp only [List.foldl_cons]
      exact ih h2 (r.put h1)
theorem keyQ_ok {d : Dv} {v : V} {k : KeyQ} (h : VR K κ ρ H d v) (e : keyQ d = some k) : v = kV k := by
  cases d with
  | int i => cases e; exact h.int
  | str i => cases e; exact h.str
  | _ => cases e
theorem OR.dk {kvs : List (KeyQ × Dv)} (h : OR K κ ρ H p (.dK kvs)) : ∃ vs : List (Key × V), H p = some (.dK vs) ∧ KR K κ ρ H kvs vs := by
  obtain ⟨vs, e, a, b⟩ := h
  exact ⟨vs, e, a, b⟩
end
section
variable {K : PySem.W.Frag} {κ : Kap} {ρ : List Addr} {H : Hp} {s : Mst} {p : Addr}
def neV (e : NestedKey × Addr × V) : NestedKey × V := (e.1, e.2.2)
theorem valE_map (es : List (NestedKey × Addr × V)) (k : NestedKey) : valV (es.map neV) k = valE es k := by
  unfold valV valE
  induction es with
  | nil => rfl
  | cons e r ih =>
    rw [List.map_cons]
    by_cases h : e.1 = k
    · rw [List.find?_cons, List.find?_cons, decide_eq_true (show (neV e).1 = k from h), decide_eq_true h]; rfl
    · rw [List.find?_cons, List.find?_cons, decide_eq_false (show ¬ (neV e).1 = k from h), decide_eq_false h]; exact ih
theorem putE_map (es : List (NestedKey × Addr × V)) (k : NestedKey) (b : Addr) (v : V) : (putE es k b v).map neV = putK (es.map neV) k v := by
  unfold putE putK
  rw [valV_any, valE_map]
  by_cases q : (valE es k).isSome = true
  · rw [if_pos q, if_pos q, List.map_map, List.map_map]
    refine List.map_congr_left fun e _ => ?_
    show neV (if e.1 = k then (e.1, e.2.1, v) else e) = if (neV e).1 = k then ((neV e).1, v) else neV e
    by_cases h : e.1 = k
    · rw [if_pos h, if_pos (show (neV e).1 = k from h)]; rfl
    · rw [if_neg h, if_neg (show ¬ (neV e).1 = k from h)]
  · rw [if_neg q, if_neg q, List.map_append]; rfl
theorem OR.dn {kvs : List (NestedKey × Dv)} (h : OR K κ ρ H p (.dN kvs)) : ∃ es, H p = some (dNO κ.w p es) ∧ KR K κ ρ H kvs (es.map neV) ∧ (∀ e ∈ es, KeyIs K H e.2.1 e.1) ∧ ∀ e ∈ es, ∃ kd, VR K κ ρ H kd (.ref e.2.1) ∧ keyN kd = some e.1 := by
  obtain ⟨es, h1, h2, h3, h4⟩ := h
  refine ⟨es, h1, ⟨by rw [List.map_map]; exact h2, by rw [List.map_map]; exact h3⟩, fun e he => ?_, h4⟩
  obtain ⟨kd, g1, g2⟩ := h4 e he
  obtain ⟨b, e1, e2⟩ := keyN_ok g1 g2
  cases e1
  exact e2
theorem OR.dk0 {kvs : List (KeyQ × Dv)} (h : OR K κ ρ H p (.dK kvs)) (e : kvs.isEmpty = true) : NDa κ.w H p [] := by
  obtain ⟨vs, e1, h2⟩ := OR.dk h
  have l := h2.length
  cases kvs with
  | nil =>
    cases vs with
    | nil => exact .inr ⟨e1, rfl⟩
    | cons _ _ => simp at l
  | cons _ _ => simp at e
theorem OR.putN (R : Rel K κ ρ H s) {n : Nat} (e0 : ρ[n]? = some p) {kvs : List (NestedKey × Dv)} {es : List (NestedKey × Addr × V)} {dy dz : Dv} {b : Addr} {z : V} {k : NestedKey} (hk : KR K κ ρ H kvs (es.map neV))
    (h4 : ∀ e ∈ es, ∃ kd, VR K κ ρ H kd (.ref e.2.1) ∧ keyN kd = some e.1) (hy : VR K κ ρ H dy (.ref b)) (ey : keyN dy = some k) (hz : VR K κ ρ H dz z) : OR K κ ρ (upd H p (dNO κ.w p (putE es k b z))) p (.dN (kput kvs k dz)) := by
  have kp := (Step.put (H := H) (o := dNO κ.w p (putE es k b z)) e0).kp R
  have r := (hk.put (k := k) hz).kp kp
  rw [← putE_map es k b z] at r
  refine ⟨_, upd_same, ?_, ?_, fun e he => ?_⟩
  · have := r.1; rw [List.map_map] at this; exact this
  · have := r.2; rw [List.map_map] at this; exact this
  · rcases mem_putE he with ⟨e', m, e1, e2⟩ | ⟨e1, e2⟩
    · obtain ⟨kd, g1, g2⟩ := h4 e' m
      exact ⟨kd, by rw [← e2]; exact VR.kp kp _ _ g1, by rw [← e1]; exact g2⟩
    · exact ⟨dy, by rw [e2]; exact VR.kp kp _ _ hy, by rw [e1]; exact ey⟩
end
section
variable {X : Cx} {κ : Kap} {W : WX}
/-! ### in -/
def rInDict : R2 := fun x y H Q => ∃ a o, y = .ref a ∧ DGet H a x o ∧ Q (.bl o.isSome) H
def rNotInDict : R2 := fun x y H Q => ∃ a o, y = .ref a ∧ DGet H a x o ∧ Q (.bl (!o.isSome)) H
theorem or_inDict (hu : X.A.units + 1 < cLine) : OpR X (compareOp .In) rInDict := by
  intro pins s σ H x y v u Q I rx ry h
  obtain ⟨a, o, rfl, g, q⟩ := h
  obtain rfl : u = Value.ref a := ry
  exact d_in hu I g rx fun s' I' => ⟨.bl o.isSome, H, I', rfl, q⟩
theorem or_notInDict (hu : X.A.units + 1 < cLine) : OpR X (compareOp .NotIn) rNotInDict := by
  intro pins s σ H x y v u Q I rx ry h
  obtain ⟨a, o, rfl, g, q⟩ := h
  obtain rfl : u = Value.ref a := ry
  exact d_notIn hu I g rx fun s' I' => ⟨.bl (!o.isSome), H, I', rfl, q⟩
theorem room_in {A : Around} {xs : List PyData} {d : PyData} (hd : SeqAt.shaped d = true) (hu : A.units + 65 < cLine) : A.units + 1 + min (PyData.depthAll xs) d.depth < cLine := by
  have h1 := SeqAt.depth_of_shaped hd
  have h2 : min (PyData.depthAll xs) d.depth ≤ d.depth := Nat.min_le_right _ _
  omega
/-- in a tuple of data -/
def rInT (K : PySem.W.Frag) : R2 := fun x y H Q => ∃ d ds, Dp K H x d ∧ Dp K H y (.tuple ds) ∧ SeqAt.shaped d = true ∧ SeqAt.shaped (.tuple ds) = true ∧ Q (.bl (ds.any fun z => PyData.eqv z d)) H
def rNotInT (K : PySem.W.Frag) : R2 := fun x y H Q => ∃ d ds, Dp K H x d ∧ Dp K H y (.tuple ds) ∧ SeqAt.shaped d = true ∧ SeqAt.shaped (.tuple ds) = true ∧ Q (.bl (!ds.any fun z => PyData.eqv z d)) H
theorem or_inT (hu : X.A.units + 65 < cLine) : OpR X (compareOp .In) (rInT X.K) := by
  rintro pins s σ H x y v u Q I rx ry ⟨d, ds, hd, he, sd, se, q⟩
  obtain ⟨_, r1⟩ := Dp.reads I d x v hd rx
  obtain ⟨_, r2⟩ := Dp.reads I (.tuple ds) y u he ry
  have sl : SeqAt.shaped (.list ds) = true := se
  exact SeqAt.in_tuple_reads r2 r1 (SeqAt.canLay_of_shaped sl) (SeqAt.canLay_of_shaped sd) (room_in sd hu) ⟨.bl _, H, I, rfl, q⟩
theorem or_notInT (hu : X.A.units + 65 < cLine) : OpR X (compareOp .NotIn) (rNotInT X.K) := by
  rintro pins s σ H x y v u Q I rx ry ⟨d, ds, hd, he, sd, se, q⟩
  obtain ⟨_, r1⟩ := Dp.reads I d x v hd rx
  obtain ⟨_, r2⟩ := Dp.reads I (.tuple ds) y u he ry
  have sl : SeqAt.shaped (.list ds) = true := se
  exact SeqAt.notIn_tuple_reads r2 r1 (SeqAt.canLay_of_shaped sl) (SeqAt.canLay_of_shaped sd) (room_in sd hu) ⟨.bl _, H, I, rfl, q⟩
def rInA (K : PySem.W.Frag) : R2 := fun x y H Q => (rInD K x y H Q ∨ rInT K x y H Q) ∨ rInDict x y H Q
def rNotInA (K : PySem.W.Frag) : R2 := fun x y H Q => (rNotInD K x y H Q ∨ rNotInT K x y H Q) ∨ rNotInDict x y H Q
theorem hu1 {A : Around} (h : A.units + 65 < cLine) : A.units + 1 < cLine := by omega
def rInB (K : PySem.W.Frag) (w : World) : R2 := fun x y H Q => rInA K x y H Q ∨ rInN K w x y H Q
def rNotInB (K : PySem.W.Frag) (w : World) : R2 := fun x y H Q => rNotInA K x y H Q ∨ rNotInN K w x y H Q
def rInC (K : PySem.W.Frag) (w : World) : R2 := fun x y H Q => rInB K w x y H Q ∨ ∃ (c : Nat) (z : Str), x = .str ⟨#[c]⟩ ∧ y = .str z ∧ Q (.bl (decide (c ∈ z.cps.toList))) H
def rNotInC (K : PySem.W.Frag) (w : World) : R2 := fun x y H Q => rNotInB K w x y H Q ∨ ∃ (c : Nat) (z : Str), x = .str ⟨#[c]⟩ ∧ y = .str z ∧ Q (.bl (!decide (c ∈ z.cps.toList))) H
theorem or_in (hu : X.A.units + 65 < cLine) : OpR X (compareOp .In) (rInC X.K X.w) := OpR.or (OpR.or (OpR.or (OpR.or (op_inD hu) (or_inT hu)) (or_inDict (hu1 hu))) (or_inN hu)) op_in_sign
theorem or_notIn (hu : X.A.units + 65 < cLine) : OpR X (compareOp .NotIn) (rNotInC X.K X.w) := OpR.or (OpR.or (OpR.or (OpR.or (op_notInD hu) (or_notInT hu)) (or_notInDict (hu1 hu))) (or_notInN hu)) op_notIn_sign
theorem inQ_ok {K : PySem.W.Frag} {ρ : List Addr} {H : Hp} {s : Mst} (R : Rel K κ ρ H s) {x y : V} {dx dy : Dv} {b : Bool} (hx : VR K κ ρ H dx x) (hy : VR K κ ρ H dy y) (e : inQ dx dy s = some b) :
    (∃ d ds, Dp K H x d ∧ Dp K H y (.list ds) ∧ SeqAt.shaped d = true ∧ SeqAt.shaped (.list ds) = true ∧ b = ds.any fun z => PyData.eqv z d) ∨ (∃ d ds, Dp K H x d ∧ Dp K H y (.tuple ds) ∧ SeqAt.shaped d = true ∧ SeqAt.shaped (.tuple ds) = true ∧ b = ds.any fun z => PyData.eqv z d) ∨ (∃ a o, y = .ref a ∧ DGet H a x o ∧ b = o.isSome) ∨ (∃ a b' k es, y = .ref a ∧ x = .ref b' ∧ KeyIs K H b' k ∧ NDa κ.w H a es ∧ (∀ e ∈ es, KeyIs K H e.2.1 e.1) ∧ b = (valE es k).isSome) ∨ (∃ (c : Nat) (z : Str), x = .str ⟨#[c]⟩ ∧ y = .str z ∧ b = decide (c ∈ z.cps.toList)) := by
  have lst : ∀ l, bAny.lstQ dy s = some l → (match dat s 66 dx, datA (dat s 65) l with
      | some a, some bs => if SeqAt.shaped a = true ∧ SeqAt.shaped (.list bs) = true then some (bs.any fun z => PyData.eqv z a) else none
      | _, _ => none) = some b → ∃ d ds, Dp K H x d ∧ Dp K H y (.list ds) ∧ SeqAt.shaped d = true ∧ SeqAt.shaped (.list ds) = true ∧ b = ds.any fun z => PyData.eqv z d := fun l hl e => by
    cases e1 : dat s 66 dx with
    | none => rw [e1] at e; cases e
    | some a =>
      cases e2 : datA (dat s 65) l with
      | none => rw [e1, e2] at e; cases e
      | some bs =>
        rw [e1, e2] at e
        simp only at e
        by_cases hs : SeqAt.shaped a = true ∧ SeqAt.shaped (.list bs) = true
        · rw [if_pos hs] at e
          cases e
          exact ⟨a, bs, dat_ok R 66 dx x a hx e1, lst_dat R hy hl e2, hs.1, hs.2, rfl⟩
        · rw [if_neg hs] at e; cases e
  unfold inQ at e
  cases dy with
  | clst l => exact .inl (lst l rfl e)
  | tup l =>
    simp only at e
    cases e1 : dat s 66 dx with
    | none => rw [e1] at e; cases e
    | some a =>
      cases e2 : datA (dat s 65) l with
      | none => rw [e1, e2] at e; cases e
      | some bs =>
        rw [e1, e2] at e
        simp only at e
        by_cases hs : SeqAt.shaped a = true ∧ SeqAt.shaped (.tuple bs) = true
        · rw [if_pos hs] at e
          cases e
          refine .inr (.inl ⟨a, bs, dat_ok R 66 dx x a hx e1, dat_ok R 66 (.tup l) y (.tuple bs) hy ?_, hs.1, hs.2, rfl⟩)
          show (datA (dat s 65) l).map PyData.tuple = _
          rw [e2]; rfl
        · rw [if_neg hs] at e; cases e
  | loc n =>
    simp only at e
    cases q : s[n]? with
    | none => rw [q] at e; cases e
    | some o =>
      rw [q] at e
      cases o with
      | lst l => exact .inl (lst l (by unfold bAny.lstQ; simp only; rw [q]) e)
      | dK kvs =>
        simp only at e
        obtain ⟨p, _, rfl, h⟩ := R.loc hy q
        obtain ⟨vs, h1, h2⟩ := OR.dk h
        cases hk : keyQ dx with
        | none =>
          rw [hk] at e
          simp only at e
          by_cases h0 : kvs.isEmpty = true
          · rw [if_pos h0] at e
            obtain ⟨k, e1, e2⟩ := Option.map_eq_some_iff.mp e
            obtain ⟨b', rfl, hb⟩ := keyN_ok hx e1
            exact .inr (.inr (.inr (.inl ⟨p, b', k, [], rfl, rfl, hb, OR.dk0 h h0, (fun _ he => by cases he), e2.symm⟩)))
          · rw [if_neg h0] at e; cases e
        | some k =>
          rw [hk] at e
          cases e
          exact .inr (.inr (.inl ⟨p, valV vs k, rfl, by rw [keyQ_ok hx hk]; exact DGet.k h1, (h2.val.1).symm⟩))
      | dN kvs =>
        simp only at e
        obtain ⟨p, _, rfl, h⟩ := R.loc hy q
        obtain ⟨es, h1, h2, h3, _⟩ := OR.dn h
        obtain ⟨k, e1, e2⟩ := Option.map_eq_some_iff.mp e
        obtain ⟨b', rfl, hb⟩ := keyN_ok hx e1
        exact .inr (.inr (.inr (.inl ⟨p, b', k, es, rfl, rfl, hb, .inl h1, h3, by rw [← e2, ← valE_map]; exact (h2.val.1).symm⟩)))
      | _ => cases e
  | str z =>
    simp only at e
    split at e
    · rename_i c
      cases e
      exact .inr (.inr (.inr (.inr ⟨c, z, hx.str, hy.str, rfl⟩)))
    · cases e
  | _ => cases e
theorem L_in (hw : κ.w = X.w) : OpL X κ (rInC X.K X.w) oIn := by
  intro W ρ σ H s x y dx dy Q R hx hy h
  unfold oIn at h
  cases e : inQ dx dy s with
  | none => rw [e] at h; exact h.elim
  | some b =>
    rw [e] at h
    have q : Q (.bl b) H := EndV.ok h R (by simp only [VR])
    rcases inQ_ok R hx hy e with ⟨d, ds, a1, a2, a3, a4, rfl⟩ | ⟨d, ds, a1, a2, a3, a4, rfl⟩ | ⟨a, o, a1, a2, rfl⟩ | ⟨a, b', k, es, a1, a2, a3, a4, a5, rfl⟩ | ⟨c, z, a1, a2, rfl⟩
    · exact .inl (.inl (.inl (.inl ⟨d, ds, a1, a2, a3, a4, q⟩)))
    · exact .inl (.inl (.inl (.inr ⟨d, ds, a1, a2, a3, a4, q⟩)))
    · exact .inl (.inl (.inr ⟨a, o, a1, a2, q⟩))
    · exact .inl (.inr ⟨a, b', k, es, a1, a2, a3, by rw [← hw]; exact a4, a5, q⟩)
    · exact .inr ⟨c, z, a1, a2, q⟩
theorem L_notIn (hw : κ.w = X.w) : OpL X κ (rNotInC X.K X.w) oNotIn := by
  intro W ρ σ H s x y dx dy Q R hx hy h
  unfold oNotIn at h
  cases e : inQ dx dy s with
  | none => rw [e] at h; exact h.elim
  | some b =>
    rw [e] at h
    have q : Q (.bl (!b)) H := EndV.ok h R (by simp only [VR])
    rcases inQ_ok R hx hy e with ⟨d, ds, a1, a2, a3, a4, rfl⟩ | ⟨d, ds, a1, a2, a3, a4, rfl⟩ | ⟨a, o, a1, a2, rfl⟩ | ⟨a, b', k, es, a1, a2, a3, a4, a5, rfl⟩ | ⟨c, z, a1, a2, rfl⟩
    · exact .inl (.inl (.inl (.inl ⟨d, ds, a1, a2, a3, a4, q⟩)))
    · exact .inl (.inl (.inl (.inr ⟨d, ds, a1, a2, a3, a4, q⟩)))
    · exact .inl (.inl (.inr ⟨a, o, a1, a2, q⟩))
    · exact .inl (.inr ⟨a, b', k, es, a1, a2, a3, by rw [← hw]; exact a4, a5, q⟩)
    · exact .inr ⟨c, z, a1, a2, q⟩
/-! ### subscripts -/
def rIxDict : R2 := fun x y H Q => ∃ a v, x = .ref a ∧ DGet H a y (some v) ∧ Q v H
theorem ix_dict (hu : X.A.units + 1 < cLine) : IxR X rIxDict := by
  intro value slice pins s σ H x y v u Q I rx ry h hs
  obtain ⟨a, z, rfl, g, q⟩ := h
  obtain rfl : v = Value.ref a := rx
  exact tail_any (dict_typeIs I g) PySem.F.slot_dict_getitem.lookup (d_getItem hu I g ry fun w' s' I' r => ⟨z, H, I', r, q⟩) hs
def rIxA (K : PySem.W.Frag) (w : World) : R2 := fun x y H Q => (rIx K x y H Q ∨ rIxDict x y H Q) ∨ rGetN K w x y H Q
theorem ix_any (hu : X.A.units + 65 < cLine) : IxR X (rIxA X.K X.w) := IxR.or (IxR.or ix_seq (ix_dict (hu1 hu))) (ix_dictN hu)
theorem atQ_eq {α : Type} (xs : List α) (i : Int) : atQ xs i = atI xs i := rfl
theorem at_ok {K : PySem.W.Frag} {ρ : List Addr} {H : Hp} {l : List Dv} {vs : List V} (h : VRs K κ ρ H l vs) {i : Int} {d : Dv} (e : atQ l i = some d) : ∃ v, atI vs i = some v ∧ VR K κ ρ H d v := by
  unfold atQ at e
  unfold atI
  rw [h.length]
  cases q : ixN l.length i with
  | none => rw [show ixQ l.length i = none from q] at e; cases e
  | some j =>
    rw [show ixQ l.length i = some j from q] at e
    exact h.get e
theorem L_get (hw : κ.w = X.w) : OpL X κ (rIxA X.K X.w) oGet := by
  intro W ρ σ H s x y dx dy Q R hx hy h
  unfold oGet at h
  cases e : getQ dx dy s with
  | none => rw [e] at h; exact h.elim
  | some d =>
    rw [e] at h
    have q : ∀ v, VR X.K κ ρ H d v → Q v H := fun v hv => EndV.ok h R hv
    unfold getQ at e
    cases dx with
    | str z =>
      cases dy with
      | int j =>
        simp only at e
        by_cases hl : z.length ≤ 2 ^ 24
        · rw [if_pos hl] at e
          cases q2 : atQ z.cps.toList j with
          | none => rw [q2] at e; cases e
          | some c =>
            rw [q2] at e
            cases e
            exact .inl (.inl (.inr (.inr ⟨z, j, c, hx.str, hy.int, hl, q2, q _ (by simp only [VR])⟩)))
        · rw [if_neg hl] at e; cases e
      | _ => cases e
    | tup l =>
      cases dy with
      | int j =>
        simp only at e
        obtain ⟨a, vs, rfl, e2, e3⟩ := hx.tupE
        obtain ⟨v, e4, e5⟩ := at_ok e3 e
        exact .inl (.inl (.inr (.inl ⟨a, vs, j, v, rfl, hy.int, e2, e4, q v e5⟩)))
      | _ => cases e
    | clst l =>
      cases dy with
      | int j =>
        simp only at e
        obtain ⟨a, vs, rfl, e2, e3⟩ := hx.clstE
        obtain ⟨v, e4, e5⟩ := at_ok e3 e
        exact .inl (.inl (.inl ⟨a, vs, j, v, rfl, hy.int, SqI.list e2, e4, q v e5⟩))
      | _ => cases e
    | loc n =>
      simp only at e
      cases q2 : s[n]? with
      | none => rw [q2] at e; cases e
      | some o =>
        rw [q2] at e
        cases o with
        | lst l =>
          cases dy with
          | int j =>
            simp only at e
            obtain ⟨a, _, rfl, vs, e2, e3⟩ := R.loc hx q2
            obtain ⟨v, e4, e5⟩ := at_ok e3 e
            exact .inl (.inl (.inl ⟨a, vs, j, v, rfl, hy.int, .of e2, e4, q v e5⟩))
          | _ => cases e
        | dK kvs =>
          simp only at e
          obtain ⟨p, _, rfl, h⟩ := R.loc hx q2
          obtain ⟨vs, h1, h2⟩ := OR.dk h
          cases hk : keyQ dy with
          | none => rw [hk] at e; cases e
          | some k =>
            rw [hk] at e
            obtain ⟨v, e1, e2⟩ := h2.val.2 d e
            exact .inl (.inr ⟨p, v, rfl, by rw [keyQ_ok hy hk, ← e1]; exact DGet.k h1, q v e2⟩)
        | dN kvs =>
          simp only at e
          obtain ⟨p, _, rfl, h⟩ := R.loc hx q2
          obtain ⟨es, h1, h2, h3, _⟩ := OR.dn h
          obtain ⟨k, e1, e2⟩ := Option.bind_eq_some_iff.mp e
          obtain ⟨b', rfl, hb⟩ := keyN_ok hy e1
          obtain ⟨v, e3, e4⟩ := h2.val.2 d e2
          exact .inr ⟨p, b', k, es, v, rfl, rfl, hb, .inl (by rw [← hw]; exact h1), h3, by rw [← valE_map]; exact e3, q v e4⟩
        | _ => cases e
    | _ => cases e
/-! ### o[i] = e -/
def rPutDict : TSet := fun o i v H Q => ∃ a H', o = .ref a ∧ DPut H a i v H' ∧ Q H'
theorem set_dict (hu : X.A.units + 1 < cLine) : PSet X rPutDict := by
  intro pins s σ H o i v ov iv u Q I ro ri rv h
  obtain ⟨a, H', rfl, g, q⟩ := h
  obtain rfl : ov = Value.ref a := ro
  exact d_setItem hu I g ri rv fun s' I' => ⟨H', I', q⟩
def rPutA (K : PySem.W.Frag) (w : World) : TSet := fun o i v H Q => (rSetL o i v H Q ∨ rPutDict o i v H Q) ∨ rPutN K w o i v H Q
theorem set_any (hu : X.A.units + 65 < cLine) : PSet X (rPutA X.K X.w) := by
  intro pins s σ H o i v ov iv u Q I ro ri rv h
  rcases h with (h | h) | h
  · exact set_list pins s σ H o i v ov iv u Q I ro ri rv h
  · exact set_dict (hu1 hu) pins s σ H o i v ov iv u Q I ro ri rv h
  · exact set_dictN hu pins s σ H o i v ov iv u Q I ro ri rv h
theorem L_put (hw : κ.w = X.w) : SetL X κ (rPutA X.K X.w) oPut := by
  intro W ρ σ H s x y z dx dy dz Q R hx hy hz h
  unfold oPut at h
  cases e : putQ dx dy dz s with
  | none => rw [e] at h; exact h.elim
  | some s' =>
    rw [e] at h
    unfold putQ at e
    cases dx with
    | loc n =>
      simp only at e
      cases q2 : s[n]? with
      | none => rw [q2] at e; cases e
      | some o =>
        rw [q2] at e
        cases o with
        | lst l =>
          cases dy with
          | int j =>
            simp only at e
            obtain ⟨a, e0, rfl, vs, e2, e3⟩ := R.loc hx q2
            cases q3 : ixQ l.length j with
            | none => rw [q3] at e; cases e
            | some k =>
              rw [q3] at e
              cases e
              refine .inl (.inl ⟨a, vs, j, k, rfl, hy.int, e2, by rw [e3.length]; exact q3, h ρ _ (Step.put e0) (R.put e0 ⟨_, upd_same, ?_⟩)⟩)
              exact VRs.later R (Step.put e0) _ _ (VRs.set hz k e3)
          | _ => cases e
        | dK kvs =>
          simp only at e
          obtain ⟨p, e0, rfl, h'⟩ := R.loc hx q2
          obtain ⟨vs, h1, h2⟩ := OR.dk h'
          cases hk : keyQ dy with
          | none =>
            rw [hk] at e
            simp only at e
            by_cases h0 : kvs.isEmpty = true
            · rw [if_pos h0] at e
              obtain ⟨k, f1, f2⟩ := Option.map_eq_some_iff.mp e
              cases f2
              obtain ⟨b, rfl, hb⟩ := keyN_ok hy f1
              have ho := OR.putN (kvs := []) (es := []) R e0 KR.nil (fun _ he => by cases he) hy f1 hz
              refine .inr ⟨p, b, k, [], rfl, rfl, hb, by rw [← hw]; exact OR.dk0 h' h0, (fun _ he => by cases he), by decide, ?_⟩
              rw [← hw]
              exact h ρ _ (Step.put e0) (R.put e0 ho)
            · rw [if_neg h0] at e; cases e
          | some k =>
            rw [hk] at e
            simp only at e
            by_cases hl : kvs.length < 2 ^ 24
            · rw [if_pos hl] at e
              cases e
              refine .inl (.inr ⟨p, _, rfl, by rw [keyQ_ok hy hk]; exact DPut.k h1 (by rw [h2.length]; exact hl), h ρ _ (Step.put e0) (R.put e0 ⟨_, upd_same, ?_⟩)⟩)
              have r := (h2.put (k := k) hz).kp ((Step.put (H := H) (o := .dK (putK vs k z)) e0).kp R)
              exact ⟨r.1, r.2⟩
            · rw [if_neg hl] at e; cases e
        | dN kvs =>
          simp only at e
          obtain ⟨p, e0, rfl, h'⟩ := R.loc hx q2
          obtain ⟨es, h1, h2, h3, h4⟩ := OR.dn h'
          obtain ⟨k, f1, e⟩ := Option.bind_eq_some_iff.mp e
          obtain ⟨b, rfl, hb⟩ := keyN_ok hy f1
          by_cases hl : kvs.length < 2 ^ 24
          · rw [if_pos hl] at e
            cases e
            have ho := OR.putN R e0 h2 h4 hy f1 hz
            refine .inr ⟨p, b, k, es, rfl, rfl, hb, .inl (by rw [← hw]; exact h1), h3, by have := h2.length; rw [List.length_map] at this; rw [this]; exact hl, ?_⟩
            rw [← hw]
            exact h ρ _ (Step.put e0) (R.put e0 ho)
          · rw [if_neg hl] at e; cases e
        | _ => cases e
    | _ => cases e
end
end Mid
/-! Mid7: slices, built-ins, methods. -/
namespace Mid
open PySem PySem.Spec L2 Classical
section
variable {X : Cx} {κ : Kap} {W : WX} {pos : Pos} {e : Expr} {es : List Expr} {me : ME} {ms : List ME}
/-! ### slices -/
theorem cutQ_eq {α : Type} (xs : List α) (lo hi : Option Int) : cutQ xs lo hi = (xs.drop (HT.sIx xs.length 0 lo)).take (HT.sIx xs.length xs.length hi - HT.sIx xs.length 0 lo) := by
  have e : ∀ n d o, sIxQ n d o = HT.sIx n d o := fun n d o => by cases o <;> rfl
  unfold cutQ
  rw [e, e]
theorem cut_ok {K : PySem.W.Frag} {ρ : List Addr} {H : Hp} {l : List Dv} {vs : List V} (h : VRs K κ ρ H l vs) (lo hi : Option Int) : VRs K κ ρ H (cutQ l lo hi) (cutV vs lo hi) := by
  rw [cutQ_eq]
  unfold cutV
  rw [h.length]
  exact VRs.take _ (VRs.drop _ h)
abbrev rdO (K : PySem.W.Frag) (κ : Kap) (W : WX) (m : MO') : L2.TO := fun σ H Q => ∃ ρ σd s, Rel K κ ρ H s ∧ ER K κ ρ H σd σ ∧ Fin K κ W ρ σ H (m σd s) fun o _ _ H' => Q o H'
abbrev LO (X : Cx) (κ : Kap) (W : WX) (e : Option Expr) (m : MO') : Prop := PO X e (rdO X.K κ W m)
theorem PO.by {e : Option Expr} {t t' : L2.TO} (h : PO X e t) (f : ∀ σ H Q, t' σ H Q → t σ H Q) : PO X e t' := ⟨fun pins s σ H Q I q => h.run pins s σ H Q I (f σ H Q q)⟩
theorem lo_none : LO X κ W none poN := PO.by po_none fun σ H Q ⟨ρ, σd, s, R, hE, h⟩ => h ρ H Step.refl R
theorem lo_some (h : LE X κ W e me) : LO X κ W (some e) (poS me) :=
  PO.by (po_some h) fun σ H Q ⟨ρ, σd, s, R, hE, h⟩ => ⟨ρ, σd, s, R, hE, (Fin.bind h).mono fun d ρ1 s1 H1 x1 R1 q v hv => by
    cases d with
    | int i => exact ⟨i, hv.int, q ρ1 H1 Step.refl R1⟩
    | _ => exact q.elim⟩
def rSlDny (K : PySem.W.Frag) : V → Option Int → Option Int → Hp → VK → Prop := fun x lo hi H Q => rSlL K x lo hi H Q ∨ rSlD K x lo hi H Q
theorem sl_any : SlR X (rSlDny X.K) := SlR.or sl_list sl_tupD
theorem sIx_all {n : Nat} {l : List Dv} {lo hi : Option Int} (h : HT.sIx l.length 0 lo = 0 ∧ HT.sIx l.length l.length hi = l.length) : cutQ l lo hi = l := by
  rw [cutQ_eq, h.1, h.2]; simp
theorem L_sl {ρ : List Addr} {σ : L2.St} {H : Hp} {s : Mst} {x : V} {dx : Dv} {lo hi : Option Int} {Q : VK} (R : Rel X.K κ ρ H s) (hx : VR X.K κ ρ H dx x) (h : EndV X.K κ W ρ σ H (slQ dx lo hi s) Q) : rSlDny X.K x lo hi H Q := by
  unfold slQ at h
  cases dx with
  | tup l =>
    simp only at h
    obtain ⟨a, vs, rfl, e2, e3⟩ := hx.tupE
    refine .inr ⟨a, vs, rfl, e2, fun hw => ?_, fun hw p its np => EndV.tup h R np (cut_ok e3 lo hi)⟩
    rw [e3.length] at hw
    rw [sIx_all (n := 0) hw] at h
    exact EndV.ok h R hx
  | clst l =>
    obtain ⟨a, vs, rfl, e2, e3⟩ := hx.clstE
    exact .inl ⟨a, vs, rfl, SqI.list e2, fun p np => EndV.newL h R np (cut_ok e3 lo hi)⟩
  | loc n =>
    simp only at h
    cases q2 : s[n]? with
    | none => rw [q2] at h; exact h.elim
    | some o =>
      rw [q2] at h
      cases o with
      | lst l =>
        obtain ⟨a, _, rfl, vs, e2, e3⟩ := R.loc hx q2
        exact .inl ⟨a, vs, rfl, .of e2, fun p np => EndV.newL h R np (cut_ok e3 lo hi)⟩
      | _ => exact h.elim
  | _ => exact h.elim
theorem le_slice {lo hi : Option Expr} {ml mh : MO'} {p2 : Pos} (he : LE X κ W e me) (hl : LO X κ W lo ml) (hh : LO X κ W hi mh) : LE X κ W (.Subscript e (.Slice lo hi none p2) pos) (mSlice me ml mh) :=
  PE.by (pe_slice sl_any he hl hh) fun σ H Q ⟨ρ, σd, s, R, hE, h⟩ => ⟨ρ, σd, s, R, hE, (Fin.bind h).mono fun d ρ1 s1 H1 x1 R1 q v hv => ⟨ρ1, σd, s1, R1, hE.later R x1, (Fin.bind q).mono fun l ρ2 s2 H2 x2 R2 q2 => ⟨ρ2, σd, s2, R2, (hE.later R x1).later R1 x2,
    (Fin.bind q2).mono fun u ρ3 s3 H3 x3 R3 q3 => L_sl R3 (VR.later R2 x3 _ _ (VR.later R1 x2 _ _ hv)) q3⟩⟩⟩
/-! ### dicts written -/
theorem dispQ_ok {K : PySem.W.Frag} {ρ : List Addr} {H : Hp} : ∀ {l : List (Dv × Dv)} {ps : List (V × V)} {kvs : List (KeyQ × Dv)}, VRs K κ ρ H (l.map (·.1)) (ps.map (·.1)) → VRs K κ ρ H (l.map (·.2)) (ps.map (·.2)) → dispQ l = some kvs →
    ∃ vs : List (Key × V), ps = vs.map (fun kv => (kV kv.1, kv.2)) ∧ KR K κ ρ H kvs vs ∧ vs.length = l.length := by
  intro l
  induction l with
  | nil =>
    intro ps kvs h1 _ e
    cases ps with
    | nil => cases e; exact ⟨[], rfl, .nil, rfl⟩
    | cons _ _ => simp [VRs] at h1
  | cons a r ih =>
    intro ps kvs h1 h2 e
    obtain ⟨k, v⟩ := a
    cases ps with
    | nil => simp [VRs] at h1
    | cons b ps =>
      obtain ⟨x, y⟩ := b
      simp only [List.map_cons, VRs] at h1 h2
      obtain ⟨x', r1, e1, hx, t1⟩ := h1
      obtain ⟨y', r2, e2, hy, t2⟩ := h2
      simp only [List.cons.injEq] at e1 e2
      obtain ⟨rfl, rfl⟩ := e1
      obtain ⟨rfl, rfl⟩ := e2
      unfold dispQ at e
      cases q1 : keyQ k with
      | none => rw [q1] at e; cases e
      | some q =>
        cases q2 : dispQ r with
        | none => rw [q1, q2] at e; cases e
        | some l' =>
          rw [q1, q2] at e
          cases e
          obtain ⟨vs, e3, e4, e5⟩ := ih t1 t2 q2
          exact ⟨(q, y) :: vs, by rw [List.map_cons, ← e3, ← keyQ_ok hx q1], .cons hy e4, by simp [e5]⟩
/-- the pairs of a display, from the left -/
inductive LPs (X : Cx) (κ : Kap) (pos : Pos) : List (Option Expr) → List Expr → List (ME × ME) → Prop where
  | nil : LPs X κ pos [] [] []
  | cons {k v : Expr} {mk mv : ME} {ks : List (Option Expr)} {vs : List Expr} {ps : List (ME × ME)} : LE X κ W0 k mk → LE X κ W0 v mv → LPs X κ pos ks vs ps → LPs X κ pos (some k :: ks) (v :: vs) ((mk, mv) :: ps)
theorem LPs.pps {pos : Pos} {ks : List (Option Expr)} {vs : List Expr} {ps : List (ME × ME)} (h : LPs X κ pos ks vs ps) : PPs X pos ks vs (ps.map fun p => (rd X.K κ W0 p.1, rd X.K κ W0 p.2)) := by
  induction h with
  | nil => exact pps_nil
  | cons a b _ ih => exact pps_cons a b ih
theorem LPs.len {pos : Pos} {ks : List (Option Expr)} {vs : List Expr} {ps : List (ME × ME)} (h : LPs X κ pos ks vs ps) : ks.length = vs.length ∧ ps.length = ks.length ∧ ks.all (·.isSome) = true := by
  induction h with
  | nil => exact ⟨rfl, rfl, rfl⟩
  | cons a b _ ih => exact ⟨by simp [ih.1], by simp [ih.2.1], by simpa using ih.2.2⟩
theorem pairs_rd {K : PySem.W.Frag} : ∀ {ps : List (ME × ME)} {ρ : List Addr} {σ : L2.St} {σd : Men} {H : Hp} {s : Mst} {Q : List (V × V) → Hp → Prop}, Rel K κ ρ H s → ER K κ ρ H σd σ →
    Fin K κ W0 ρ σ H (mPairs ps σd s) (fun l ρ' _ H' => ∀ vs, VRs K κ ρ' H' (l.map (·.1)) (vs.map (·.1)) → VRs K κ ρ' H' (l.map (·.2)) (vs.map (·.2)) → Q vs H') → tPairs (ps.map fun p => (rd K κ W0 p.1, rd K κ W0 p.2)) σ H Q := by
  intro ps
  induction ps with
  | nil => intro ρ σ σd H s Q R hE h; exact h ρ H Step.refl R [] .nil .nil
  | cons a r ih =>
    intro ρ σ σd H s Q R hE h
    obtain ⟨mk, mv⟩ := a
    exact ⟨ρ, σd, s, R, hE, (Fin.bind h).mono fun d ρ1 s1 H1 x1 R1 h1 x hx => ⟨ρ1, σd, s1, R1, hE.later R x1, (Fin.bind h1).mono fun d2 ρ2 s2 H2 x2 R2 h2 y hy =>
      ih R2 ((hE.later R x1).later R1 x2) ((Fin.bind h2).mono fun l ρ3 s3 H3 x3 R3 h3 vs v1 v2 => h3 ρ3 H3 Step.refl R3 ((x, y) :: vs) (.cons (VR.later R2 x3 _ _ (VR.later R1 x2 _ _ hx)) v1) (.cons (VR.later R2 x3 _ _ hy) v2))⟩⟩
theorem mPairs_len : ∀ {ps : List (ME × ME)} {σ : Men} {s s1 : Mst} {l : List (Dv × Dv)}, mPairs ps σ s = .ok l s1 → l.length = ps.length
  | [], σ, s, s1, l, h => by cases h; rfl
  | (a, b) :: ps, σ, s, s1, l, h => by
    obtain ⟨d, s2, e1, h⟩ := Rm.bind_eq_ok h
    obtain ⟨d2, s3, e2, h⟩ := Rm.bind_eq_ok h
    obtain ⟨r, s4, e3, h⟩ := Rm.bind_eq_ok h
    cases h
    simp [mPairs_len e3]
theorem le_disp {ks : List (Option Expr)} {vs : List Expr} {ps : List (ME × ME)} (h : LPs X κ pos ks vs ps) (h0 : ks ≠ [] := by intro z; cases z) (h15 : ks.length ≤ 15 := by decide) : LE X κ W (.Dict ks vs pos) (fun σ s => (mDisp ps σ s).noEr) :=
  PE.by (pe_disp h.pps h.len.2.2 h.len.1 h0 h15) fun σ H Q ⟨ρ, σd, s, R, hE, q⟩ p np => by
    have hm : ∃ l s1 kvs, mPairs ps σd s = .ok l s1 ∧ dispQ l = some kvs := by
      have q1 : Fin X.K κ W ρ σ H (mDisp ps σd s).noEr _ := q
      unfold mDisp at q1
      cases e : mPairs ps σd s with
      | bad => rw [e] at q1; exact q1.elim
      | er z s1 => rw [e] at q1; exact q1.elim
      | ok l s1 =>
        rw [e] at q1
        simp only [Rm.bind_ok] at q1
        cases e2 : dispQ l with
        | none => rw [e2] at q1; exact q1.elim
        | some kvs => exact ⟨l, s1, kvs, rfl, e2⟩
    obtain ⟨l, s1, kvs, e, e2⟩ := hm
    have m0 : (mDisp ps σd s).noEr = .ok (.loc s1.length) (s1 ++ [.dK (kputs [] kvs)]) := by
      unfold mDisp
      rw [e]
      simp only [Rm.bind_ok]
      rw [e2]
      rfl
    refine pairs_rd (R.lay np) (hE.later R (Step.lay np)) ?_
    rw [e]
    intro ρ1 H1 x1 R1 us v1 v2
    have nd : p ∉ ρ := R.fresh np
    have hp1 : H1 p = some (.dK []) := x1.keep _ _ upd_same nd
    have np1 : p ∉ ρ1 := x1.out upd_same nd
    obtain ⟨ws, e3, e4, e5⟩ := dispQ_ok v1 v2 e2
    refine ⟨hp1, ws, e3, by rw [e5, mPairs_len e, h.len.2.1]; exact h15, ?_⟩
    have kpp : Kp ρ1 H1 ρ1 (upd H1 p (.dK (mergeK [] ws))) := ⟨fun _ _ h => h, fun b zs h => by rw [upd_ne (ne_of h hp1 (by intro z; cases z))]; exact h, fun b o u h => by rw [upd_ne (ne_of h hp1 (by intro z; cases z))]; exact h, fun b o h => by rw [upd_ne (ne_of h hp1 (by intro z; cases z))]; exact h⟩
    have R2 : Rel X.K κ ρ1 (upd H1 p (.dK (mergeK [] ws))) s1 := ⟨R1.len, R1.nd, fun k b u a1 a2 => (R1.obj k b u a1 a2).kp kpp (upd_ne fun z => np1 (z ▸ List.mem_of_getElem? a1))⟩
    have q' : Fin X.K κ W ρ σ H (mDisp ps σd s).noEr fun d ρ' _ H' => ∀ v, VR X.K κ ρ' H' d v → Q v H' := q
    rw [m0] at q'
    have st : Step ρ H (ρ1 ++ [p]) (upd H1 p (.dK (mergeK [] ws))) := by
      have s0 : Step ρ H ρ1 H1 := (Step.lay np).trans x1
      exact (s0.apart np).add np
    have r := (e4.puts .nil).kp kpp
    exact q' _ _ st (R2.add ⟨mergeK [] ws, upd_same, r.1, r.2⟩ np1) (.ref p) (by rw [← R1.len]; exact VR.last)
theorem le_dict0 : LE X κ W (.Dict [] [] pos) (mDisp []) :=
  PE.by pe_dnewK fun σ H Q ⟨ρ, σd, s, R, hE, q⟩ p np => EndV.new q R np ⟨[], upd_same, rfl, .nil⟩
end
end Mid
/-! Mid8: built-ins and methods. -/
namespace Mid
open PySem PySem.Spec L2 Classical
section
variable {X : Cx} {κ : Kap} {W : WX} {pos p apos : Pos} {x : Str} {e o : Expr} {es : List Expr} {me mo : ME} {ms : List ME} {id T : String} {F : MF}
def CallL (X : Cx) (κ : Kap) (r : List V → Hp → VK → Prop) (F : MF) : Prop := ∀ W ρ σ H s vs ds Q, Rel X.K κ ρ H s → VRs X.K κ ρ H ds vs → EndV X.K κ W ρ σ H (F ds s) Q → r vs H Q
def MtL (X : Cx) (κ : Kap) (r : V → List V → Hp → VK → Prop) (F : MF) : Prop := ∀ W ρ σ H s v vs d ds Q, Rel X.K κ ρ H s → VR X.K κ ρ H d v → VRs X.K κ ρ H ds vs → EndV X.K κ W ρ σ H (F (d :: ds) s) Q → r v vs H Q
theorem le_callB {r : List V → Hp → VK → Prop} (hc : CallR X (.builtin id) r) (L : CallL X κ r F) (hg : Gl X x) (hm : X.mg x = none) (hv : bootBuiltins x = some (.builtin id)) (ha : LA X κ W (e :: es) ms) (hn : x ≠ "__name__" := by decide) (hdb : (x == ("__debug__" : Str)) = false := by decide)
    (he : starEach (e :: es) X.env = (false, eval e X.env) :: starEach es X.env := by rfl) (hpl : (backTo pos (starEach es X.env)).any (·.1) = false := by rfl) : LE X κ W (.Call (.Name x p) (e :: es) [] pos) (mCall F ms) :=
  PE.by (pe_callB hc hg hm hv ha hn hdb he hpl) fun σ H Q ⟨ρ, σd, s, R, hE, q⟩ => ⟨ρ, σd, s, R, hE, (Fin.bind q).mono fun ds ρ1 s1 H1 x1 R1 h1 vs hvs => L W ρ1 σ H1 s1 vs ds Q R1 hvs h1⟩
theorem le_callTy {r : List V → Hp → VK → Prop} (hc : CallR X (.type T) r) (L : CallL X κ r F) (hg : Gl X x) (hm : X.mg x = none) (hv : bootBuiltins x = some (.type T)) (ha : LA X κ W (e :: es) ms) (hn : x ≠ "__name__" := by decide) (hdb : (x == ("__debug__" : Str)) = false := by decide)
    (he : starEach (e :: es) X.env = (false, eval e X.env) :: starEach es X.env := by rfl) (hpl : (backTo pos (starEach es X.env)).any (·.1) = false := by rfl) : LE X κ W (.Call (.Name x p) (e :: es) [] pos) (mCall F ms) :=
  PE.by (pe_callTy hc hg hm hv ha hn hdb he hpl) fun σ H Q ⟨ρ, σd, s, R, hE, q⟩ => ⟨ρ, σd, s, R, hE, (Fin.bind q).mono fun ds ρ1 s1 H1 x1 R1 h1 vs hvs => L W ρ1 σ H1 s1 vs ds Q R1 hvs h1⟩
/-- of that type, a dict of tuples too -/
def tyW (K : PySem.W.Frag) (w : World) (T : String) (x : V) (H : Hp) : Prop := tyV K T x H ∨ (T = "dict" ∧ ∃ a es, x = .ref a ∧ H a = some (dNO w a es))
theorem tyW_is {w : World} {pins : List (Addr × Obj)} {σ : L2.St} {H : Hp} {s : Shared} {x : V} {v : Value} (I : Inv X pins σ H s) (r : RelV x v) (t : tyW X.K w T x H) : s.TypeIs v T ∧ ∀ a, v = .ref a → ∃ ob, s.heap.get? a = some ob ∧ ob.dict = none := by
  rcases t with t | ⟨rfl, a, es, rfl, h⟩
  · exact tyV_is I r t
  · obtain rfl : v = .ref a := r
    obtain ⟨⟨_, _, _, xs, o, ds, ep, _, ho, hx, _⟩, _, _⟩ := I.hok a _ h
    exact ⟨⟨o, ho, hx.1⟩, fun b e => by cases e; exact ⟨o, ho, hx.2.1⟩⟩
def tBW (K : PySem.W.Frag) (w : World) (T : String) (r : V → List V → Hp → VK → Prop) (to : TE) (t : TA) : TE := fun σ H Q => to σ H fun x H1 => tyW K w T x H1 ∧ t σ H1 fun xs H2 => r x xs H2 Q
def tBW0 (K : PySem.W.Frag) (w : World) (T : String) (r : V → List V → Hp → VK → Prop) (to : TE) : TE := fun σ H Q => to σ H fun x H1 => tyW K w T x H1 ∧ r x [] H1 Q
theorem pe_bw0 {w : World} {r : V → List V → Hp → VK → Prop} {name : Str} {to : TE} (pa : PlainAttrs T) (slot : Slot T name id) (hty : typeOf (.builtin id) = pure (.type "method_descriptor")) (hm : MtR X id r) (ho : PE X o to)
    (hbase : attributeBase o name X.env (eval o X.env) = eval o X.env) (hline : (apos.endLine == pos.line) = true) : PE X (.Call (.Attribute o name apos) [] [] pos) (tBW0 X.K w T r to) :=
  ⟨fun pins s σ H Q I h => wpAny_Call_method0_late hbase hline (thn (ho.run pins s σ H _ I h) fun v s1 ⟨x, H1, I1, r1, ty, q1⟩ =>
    let ⟨h1, h2⟩ := tyW_is I1 r1 ty
    ⟨T, id, pa, slot, hty, h1, h2, Calls.callWith_builtin rfl (PySem.evalArgs_none (hm pins s1 σ H1 x [] v [] Q I1 r1 .nil q1))⟩)⟩
theorem pe_bw {w : World} {r : V → List V → Hp → VK → Prop} {name : Str} {to : TE} {t : TA} (pa : PlainAttrs T) (slot : Slot T name id) (hty : typeOf (.builtin id) = pure (.type "method_descriptor")) (hm : MtR X id r) (ho : PE X o to) (ha : PA X (e :: es) t)
    (hbase : attributeBase o name X.env (eval o X.env) = eval o X.env)
    (hfew : ((backTo pos (starEach (e :: es) X.env)).all (fun x => !x.1) && (backToKw pos (keywordEach [] X.env)).all (fun x => x.1.isSome)
      && decide ((e :: es).length + ([] : List Keyword).length + (if ([] : List Keyword).isEmpty then 0 else 1) < 30)) = true)
    (hline : (apos.endLine == pos.line) = true) (hs : starEach (e :: es) X.env = (false, eval e X.env) :: starEach es X.env) (hplain : (backTo pos (starEach es X.env)).any (·.1) = false) : PE X (.Call (.Attribute o name apos) (e :: es) [] pos) (tBW X.K w T r to t) :=
  ⟨fun pins s σ H Q I h => wpAny_Call_method_late hbase hfew hline rfl (thn (ho.run pins s σ H _ I h) fun v s1 ⟨x, H1, I1, r1, ty, q1⟩ => by
    obtain ⟨h1, h2⟩ := tyW_is I1 r1 ty
    have hA := ha.run pos pins s1 σ H1 _ I1 q1
    refine ⟨T, id, pa, slot, hty, h1, h2, ?_⟩
    rw [hs] at hA ⊢
    exact Calls.callWith_builtin (by show (false || (backTo pos (starEach es X.env)).any (·.1)) = false; rw [hplain] <;> rfl) (Calls.evalArgs_plain (thn hA fun us s2 ⟨vs, H2, I2, r2, q2⟩ => hm pins s2 σ H2 x vs v us Q I2 r1 r2 q2)))⟩
theorem tyQ_ok {K : PySem.W.Frag} {ρ : List Addr} {H : Hp} {s : Mst} (R : Rel K κ ρ H s) {d : Dv} {v : V} (h : VR K κ ρ H d v) (e : tyQ d s = T) (hT : T ∈ ["str", "int", "list", "dict"]) : tyW K κ.w T v H := by
  unfold tyQ at e
  cases d with
  | int i => subst e; rw [h.int]; exact .inl rfl
  | str i => subst e; rw [h.str]; exact .inl rfl
  | clst l => subst e; obtain ⟨a, vs, rfl, e2, _⟩ := h.clstE; exact .inl (.inl ⟨rfl, vs, SqI.list e2⟩)
  | loc n =>
    simp only at e
    cases q : s[n]? with
    | none => rw [q] at e; subst e; simp at hT
    | some o =>
      rw [q] at e
      cases o with
      | lst l => subst e; obtain ⟨a, _, rfl, vs, e2, _⟩ := R.loc h q; exact .inl (.inl ⟨rfl, vs, .of e2⟩)
      | dK l => subst e; obtain ⟨a, _, rfl, vs, e2, _⟩ := R.loc h q; exact .inl (.inr (.inr (.inl ⟨rfl, .inl ⟨vs, e2⟩⟩)))
      | dN l => subst e; obtain ⟨a, _, rfl, vs, e2, _⟩ := R.loc h q; exact .inr ⟨rfl, a, vs, rfl, e2⟩
      | ins C l => subst e; simp at hT
  | _ => subst e; simp at hT
theorem le_meth {r : V → List V → Hp → VK → Prop} {name : Str} (pa : PlainAttrs T) (slot : Slot T name id) (hty : typeOf (.builtin id) = pure (.type "method_descriptor")) (hm : MtR X id r) (L : MtL X κ r F) (ho : LE X κ W o mo) (ha : LA X κ W (e :: es) ms) (hT : T ∈ ["str", "int", "list", "dict"] := by decide)
    (hbase : attributeBase o name X.env (eval o X.env) = eval o X.env := by rfl)
    (hfew : ((backTo pos (starEach (e :: es) X.env)).all (fun x => !x.1) && (backToKw pos (keywordEach [] X.env)).all (fun x => x.1.isSome)
      && decide ((e :: es).length + ([] : List Keyword).length + (if ([] : List Keyword).isEmpty then 0 else 1) < 30)) = true := by rfl)
    (hline : (apos.endLine == pos.line) = true := by rfl) (hs : starEach (e :: es) X.env = (false, eval e X.env) :: starEach es X.env := by rfl) (hplain : (backTo pos (starEach es X.env)).any (·.1) = false := by rfl) :
    LE X κ W (.Call (.Attribute o name apos) (e :: es) [] pos) (mMeth T F mo ms) :=
  PE.by (pe_bw (w := κ.w) pa slot hty hm ho ha hbase hfew hline hs hplain) fun σ H Q ⟨ρ, σd, s, R, hE, q⟩ => ⟨ρ, σd, s, R, hE, (Fin.bind q).mono fun d ρ1 s1 H1 x1 R1 h1 v hv => by
    by_cases hq : tyQ d s1 = T
    · rw [if_pos hq] at h1
      exact ⟨tyQ_ok R1 hv hq hT, ρ1, σd, s1, R1, hE.later R x1, (Fin.bind h1).mono fun ds ρ2 s2 H2 x2 R2 h2 vs hvs => L W ρ2 σ H2 s2 v vs d ds Q R2 (VR.later R1 x2 _ _ hv) hvs h2⟩
    · rw [if_neg hq] at h1; exact h1.elim⟩
theorem le_meth0 {r : V → List V → Hp → VK → Prop} {name : Str} (pa : PlainAttrs T) (slot : Slot T name id) (hty : typeOf (.builtin id) = pure (.type "method_descriptor")) (hm : MtR X id r) (L : MtL X κ r F) (ho : LE X κ W o mo) (hT : T ∈ ["str", "int", "list", "dict"] := by decide)
    (hbase : attributeBase o name X.env (eval o X.env) = eval o X.env := by rfl) (hline : (apos.endLine == pos.line) = true := by rfl) : LE X κ W (.Call (.Attribute o name apos) [] [] pos) (mMeth T F mo []) :=
  PE.by (pe_bw0 (w := κ.w) pa slot hty hm ho hbase hline) fun σ H Q ⟨ρ, σd, s, R, hE, q⟩ => ⟨ρ, σd, s, R, hE, (Fin.bind q).mono fun d ρ1 s1 H1 x1 R1 h1 v hv => by
    by_cases hq : tyQ d s1 = T
    · rw [if_pos hq] at h1
      exact ⟨tyQ_ok R1 hv hq hT, L W ρ1 σ H1 s1 v [] d [] Q R1 hv .nil ((Fin.bind h1) ρ1 H1 Step.refl R1)⟩
    · rw [if_neg hq] at h1; exact h1.elim⟩
theorem intsQ_ok {K : PySem.W.Frag} {ρ : List Addr} {H : Hp} : ∀ {l : List Dv} {vs : List V} {ns : List Int}, VRs K κ ρ H l vs → intsQ l = some ns → vs = ns.map V.int ∧ l = ns.map Dv.int
  | [], vs, ns, h, e => by simp only [VRs] at h; cases e; exact ⟨h, rfl⟩
  | d :: l, vs, ns, h, e => by
    simp only [VRs] at h
    obtain ⟨v, r, rfl, h1, h2⟩ := h
    cases d with
    | int i =>
      unfold intsQ at e
      cases q : intsQ l with
      | none => rw [q] at e; cases e
      | some ms =>
        rw [q] at e; cases e
        obtain ⟨e1, e2⟩ := intsQ_ok h2 q
        exact ⟨by rw [List.map_cons, ← e1, h1.int], by rw [List.map_cons, ← e2]⟩
    | _ => cases e
/-- one argument -/
theorem call1 {r : List V → Hp → VK → Prop} {f : Dv → Mst → Rm Dv} (h : ∀ W ρ σ H s v d Q, Rel X.K κ ρ H s → VR X.K κ ρ H d v → EndV X.K κ W ρ σ H (f d s) Q → r [v] H Q) : CallL X κ r (f1 f) := by
  intro W ρ σ H s vs ds Q R hv q
  cases ds with
  | nil => exact q.elim
  | cons d ds =>
    cases ds with
    | nil =>
      simp only [VRs] at hv
      obtain ⟨v, r', rfl, h1, rfl⟩ := hv
      exact h W ρ σ H s v d Q R h1 q
    | cons _ _ => exact q.elim
theorem call2 {r : List V → Hp → VK → Prop} {f : Dv → Dv → Mst → Rm Dv} (h : ∀ W ρ σ H s v u d e Q, Rel X.K κ ρ H s → VR X.K κ ρ H d v → VR X.K κ ρ H e u → EndV X.K κ W ρ σ H (f d e s) Q → r [v, u] H Q) : CallL X κ r (f2 f) := by
  intro W ρ σ H s vs ds Q R hv q
  cases ds with
  | nil => exact q.elim
  | cons d ds =>
    cases ds with
    | nil => exact q.elim
    | cons e ds =>
      cases ds with
      | nil =>
        simp only [VRs] at hv
        obtain ⟨v, r', rfl, h1, u, r'', rfl, h2, rfl⟩ := hv
        exact h W ρ σ H s v u d e Q R h1 h2 q
      | cons _ _ => exact q.elim
theorem meth1 {r : V → List V → Hp → VK → Prop} {f : Dv → Dv → Mst → Rm Dv} (h : ∀ W ρ σ H s v u d e Q, Rel X.K κ ρ H s → VR X.K κ ρ H d v → VR X.K κ ρ H e u → EndV X.K κ W ρ σ H (f d e s) Q → r v [u] H Q) : MtL X κ r (f2 f) := by
  intro W ρ σ H s v vs d ds Q R hd hv q
  cases ds with
  | nil => exact q.elim
  | cons e ds =>
    cases ds with
    | nil =>
      simp only [VRs] at hv
      obtain ⟨u, r', rfl, h1, rfl⟩ := hv
      exact h W ρ σ H s v u d e Q R hd h1 q
    | cons _ _ => exact q.elim
/-! ### len, tuple, list, any, all, int -/
def rLenA (K : PySem.W.Frag) (w : World) : List V → Hp → VK → Prop := fun xs H Q => ((∃ x n, xs = [x] ∧ LenV K x H n ∧ Q (.int n) H) ∨ ∃ a kvs, xs = [V.ref a] ∧ H a = some (.dK kvs) ∧ Q (.int kvs.length) H) ∨ rLenN K w xs H Q
theorem cr_lenN : CallR X (.builtin "len") (rLenN X.K X.w) := by
  intro pins s σ H xs us Q I r h
  obtain ⟨a, es, rfl, hd, hk, q⟩ := h
  obtain ⟨u, rfl, ru⟩ := vals1 r
  cases ru
  obtain ⟨h1, h2, ys, r, dd⟩ := nda_at I hd hk
  have hl : es.length = ys.length := Paired.length r
  refine call_len_dictH h1 dd (by rw [← hl]; rw [sizeLine_eq] at h2; omega) ?_
  rw [← hl]
  exact ⟨.int es.length, H, I.tok _, ⟨_, rfl⟩, q⟩
theorem cr_len : CallR X (.builtin "len") (rLenA X.K X.w) := CallR.or (CallR.or call_len call_lenD) cr_lenN
theorem L_len (hw : κ.w = X.w) : CallL X κ (rLenA X.K X.w) bLen := call1 fun W ρ σ H s v d Q R hv q => by
  cases e : lenQ d s with
  | none => rw [e] at q; exact q.elim
  | some n =>
    rw [e] at q
    have q' : Q (.int n) H := EndV.ok q R (by simp only [VR])
    unfold lenQ at e
    cases d with
    | str z =>
      simp only at e
      by_cases hl : z.length ≤ 2 ^ 24
      · rw [if_pos hl] at e; cases e
        exact .inl (.inl ⟨v, _, rfl, by rw [hv.str]; exact ⟨hl, rfl⟩, q'⟩)
      · rw [if_neg hl] at e; cases e
    | tup l =>
      cases e
      obtain ⟨a, vs, rfl, e2, e3⟩ := hv.tupE
      exact .inl (.inl ⟨_, _, rfl, .inr ⟨vs, e2, e3.length.symm⟩, q'⟩)
    | clst l =>
      cases e
      obtain ⟨a, vs, rfl, e2, e3⟩ := hv.clstE
      exact .inl (.inl ⟨_, _, rfl, .inl ⟨vs, SqI.list e2, e3.length.symm⟩, q'⟩)
    | loc k =>
      simp only at e
      cases q2 : s[k]? with
      | none => rw [q2] at e; cases e
      | some o =>
        rw [q2] at e
        cases o with
        | lst l =>
          cases e
          obtain ⟨a, _, rfl, vs, e2, e3⟩ := R.loc hv q2
          exact .inl (.inl ⟨_, _, rfl, .inl ⟨vs, .of e2, e3.length.symm⟩, q'⟩)
        | dK l =>
          cases e
          obtain ⟨a, _, rfl, h⟩ := R.loc hv q2
          obtain ⟨vs, e2, e3⟩ := OR.dk h
          exact .inl (.inr ⟨a, vs, rfl, e2, by rw [e3.length]; exact q'⟩)
        | dN l =>
          cases e
          obtain ⟨a, _, rfl, h⟩ := R.loc hv q2
          obtain ⟨es, e2, e3, e4, _⟩ := OR.dn h
          exact .inr ⟨a, es, rfl, .inl (by rw [← hw]; exact e2), e4, by have := e3.length; rw [List.length_map] at this; rw [this]; exact q'⟩
        | _ => cases e
    | _ => cases e
theorem L_tuple : CallL X κ (fun xs H Q => ∃ p ys, xs = [.ref p] ∧ ((SqL X.K H p ys ∧ ∀ l its, H l = none → Q (.ref l) (upd H l (.frz (tupO its) (.tup ys)))) ∨ (SqT X.K H p ys ∧ Q (.ref p) H))) bTuple := call1 fun W ρ σ H s v d Q R hv q => by
  cases e : seqOf d s with
  | none => rw [e] at q; exact q.elim
  | some l =>
    rw [e] at q
    rcases seqOf_eq e with rfl | e2
    · obtain ⟨a, vs, rfl, e2, e3⟩ := VR.tupE hv
      exact ⟨a, vs, rfl, .inr ⟨e2, EndV.ok q R hv⟩⟩
    · obtain ⟨a, vs, rfl, h1, h2⟩ := R.lstE hv e2
      exact ⟨a, vs, rfl, .inl ⟨h1, fun p its np => EndV.tup q R np h2⟩⟩
theorem L_list : CallL X κ (fun xs H Q => ∃ p ys, xs = [.ref p] ∧ (SqL X.K H p ys ∨ SqT X.K H p ys) ∧ ∀ l, H l = none → Q (.ref l) (upd H l (.lst ys))) bList := call1 fun W ρ σ H s v d Q R hv q => by
  cases e : seqOf d s with
  | none => rw [e] at q; exact q.elim
  | some l =>
    rw [e] at q
    rcases seqOf_eq e with rfl | e2
    · obtain ⟨a, vs, rfl, e2, e3⟩ := VR.tupE hv
      exact ⟨a, vs, rfl, .inr e2, fun p np => EndV.newL q R np e3⟩
    · obtain ⟨a, vs, rfl, h1, h2⟩ := R.lstE hv e2
      exact ⟨a, vs, rfl, .inl h1, fun p np => EndV.newL q R np h2⟩
theorem blsQ_ok {K : PySem.W.Frag} {ρ : List Addr} {H : Hp} : ∀ {l : List Dv} {vs : List V} {bs : List Bool}, VRs K κ ρ H l vs → blsQ l = some bs → vs = bs.map V.bl
  | [], vs, bs, h, e => by simp only [VRs] at h; cases e; exact h
  | d :: l, vs, bs, h, e => by
    simp only [VRs] at h
    obtain ⟨v, r, rfl, h1, h2⟩ := h
    cases d with
    | bl b =>
      unfold blsQ at e
      cases q : blsQ l with
      | none => rw [q] at e; cases e
      | some cs => rw [q] at e; cases e; rw [List.map_cons, ← blsQ_ok h2 q, h1.bl]
    | _ => cases e
theorem L_any : CallL X κ (rAny X.K) bAny := call1 fun W ρ σ H s v d Q R hv q => by
  cases e : bAny.lstQ d s with
  | none => rw [e] at q; exact q.elim
  | some l =>
    rw [e] at q
    simp only [Option.bind_some] at q
    cases e2 : blsQ l with
    | none => rw [e2] at q; exact q.elim
    | some bs =>
      rw [e2] at q
      obtain ⟨a, vs, rfl, h1, h2⟩ := R.lstE hv e
      exact ⟨a, bs, rfl, by rw [← blsQ_ok h2 e2]; exact h1, EndV.ok q R (by simp only [VR])⟩
theorem L_all : CallL X κ (rAll X.K) bAll := call1 fun W ρ σ H s v d Q R hv q => by
  cases e : bAny.lstQ d s with
  | none => rw [e] at q; exact q.elim
  | some l =>
    rw [e] at q
    simp only [Option.bind_some] at q
    cases e2 : blsQ l with
    | none => rw [e2] at q; exact q.elim
    | some bs =>
      rw [e2] at q
      obtain ⟨a, vs, rfl, h1, h2⟩ := R.lstE hv e
      exact ⟨a, bs, rfl, by rw [← blsQ_ok h2 e2]; exact h1, EndV.ok q R (by simp only [VR])⟩
theorem L_int : CallL X κ (fun xs H Q => (∃ i, xs = [.int i] ∧ Q (.int i) H) ∨ ∃ k, xs = [.bl k] ∧ Q (.int (if k then 1 else 0)) H) bInt := call1 fun W ρ σ H s v d Q R hv q => by
  cases d with
  | int i => exact .inl ⟨i, by rw [hv.int], EndV.ok q R (by simp only [VR])⟩
  | bl b => exact .inr ⟨b, by rw [hv.bl], EndV.ok q R (by simp only [VR])⟩
  | _ => exact q.elim
/-! ### isinstance -/
theorem tyX_ok {K : PySem.W.Frag} {ρ : List Addr} {H : Hp} {s : Mst} (R : Rel K κ ρ H s) {d : Dv} {v : V} (h : VR K κ ρ H d v) (hk : tyQ d s ∈ kinds) (hn : noN d s = true) : TyX K H v (.type (tyQ d s)) := by
  unfold noN at hn
  unfold tyQ at hk ⊢
  cases d with
  | non => rw [h.non]; exact .base .non
  | bl b => rw [h.bl]; exact .base (.bl b)
  | int i => rw [h.int]; exact .base (.int i)
  | str i => rw [h.str]; exact .base (.str i)
  | tup l =>
    obtain ⟨a, vs, rfl, e2, _⟩ := h.tupE
    rcases e2 with (e2 | ⟨o, e2⟩) | ⟨o, its, n, e1, e2, _⟩
    · exact .base (.tup e2)
    · exact .fTuple e2
    · exact .kTuple e1 e2
  | clst l =>
    obtain ⟨a, vs, rfl, e2, _⟩ := h.clstE
    rcases e2 with ⟨o, e2⟩ | ⟨o, its, n, e1, e2, _⟩
    · exact .base (.frz e2)
    · exact .kList e1 e2
  | loc n =>
    simp only at hk ⊢
    cases q : s[n]? with
    | none => simp [q, kinds] at hk
    | some o =>
      simp only [q] at hk ⊢
      cases o with
      | lst l => obtain ⟨a, _, rfl, vs, e2, _⟩ := R.loc h q; exact .base (.lst e2)
      | dK l => obtain ⟨a, _, rfl, vs, e2, _⟩ := R.loc h q; exact .base (.dK e2)
      | dN l => simp only [q] at hn; cases hn
      | ins C l => simp [kinds] at hk
  | ptup l => simp [kinds] at hk
  | fix n => simp [kinds] at hk
  | ty n => simp [kinds] at hk
theorem kit_all {K : PySem.W.Frag} {t n : String} (ht : t ∈ kinds) (hn : n ∈ asked) : PySem.W.kitOne K (.type t) (.type n) = some (isiQ t n) := by
  have h : ∀ t ∈ kinds, ∀ n ∈ asked, kitB t n = some (isiQ t n) := by decide +kernel
  exact kit_ty (h t ht n hn)
theorem L_isi : CallL X κ (rIsi X.K) bIsi := call2 fun W ρ σ H s v u d e Q R hv hu q => by
  cases e with
  | ty n =>
    simp only at q
    by_cases hq : tyQ d s ∈ kinds ∧ n ∈ asked ∧ noN d s = true
    · rw [if_pos hq] at q
      exact ⟨v, .ty n, _, _, _, by rw [hu.tyE], .ty n, tyX_ok R hv hq.1 hq.2.2, kit_all hq.1 hq.2.1, EndV.ok q R (by simp only [VR])⟩
    · rw [if_neg hq] at q; exact q.elim
  | _ => exact q.elim
/-! ### methods of lists -/
theorem methL {r : V → List V → Hp → VK → Prop} {f : List Dv → List Dv → Option (List Dv × Dv)}
    (h : ∀ (ρ : List Addr) (H : Hp) (l : List Dv) (xs : List V) (ds : List Dv) (vs : List V) (l' : List Dv) (d : Dv) (a : Addr) (Q : VK), VRs X.K κ ρ H l xs → VRs X.K κ ρ H ds vs → f l ds = some (l', d) → H a = some (.lst xs) →
      (∀ xs' v, VRs X.K κ ρ H l' xs' → VR X.K κ ρ H d v → Q v (upd H a (.lst xs'))) → r (.ref a) vs H Q) : MtL X κ r (onLst f) := by
  intro W ρ σ H s v vs d ds Q R hd hv q
  unfold onLst at q
  cases d with
  | loc n =>
    simp only at q
    cases e : s[n]? with
    | none => rw [e] at q; exact q.elim
    | some o =>
      rw [e] at q
      cases o with
      | lst l =>
        simp only at q
        obtain ⟨a, e0, rfl, xs, e2, e3⟩ := R.loc hd e
        cases e4 : f l ds with
        | none => rw [e4] at q; exact q.elim
        | some z =>
          obtain ⟨l', d'⟩ := z
          rw [e4] at q
          exact h ρ H l xs ds vs l' d' a Q e3 hv e4 e2 fun xs' v' h1 h2 => EndV.put q R e0 ⟨xs', upd_same, VRs.later R (Step.put e0) _ _ h1⟩ (VR.later R (Step.put e0) _ _ h2)
      | _ => exact q.elim
  | _ => exact q.elim
theorem L_append : MtL X κ rAppend tAppend := methL fun ρ H l xs ds vs l' d a Q hl hv e ha q => by
  cases ds with
  | nil => cases e
  | cons x r =>
    cases r with
    | nil =>
      simp only at e
      by_cases hz : l.length < 2 ^ 24
      · rw [if_pos hz] at e
        cases e
        simp only [VRs] at hv
        obtain ⟨v, r', rfl, h1, rfl⟩ := hv
        exact ⟨a, xs, v, rfl, rfl, ha, by rw [hl.length]; exact hz, q _ _ (hl.append (.cons h1 .nil)) (by simp only [VR])⟩
      · rw [if_neg hz] at e; cases e
    | cons _ _ => cases e
def rPopA : V → List V → Hp → VK → Prop := fun x vs H Q => rPop x vs H Q ∨ rPopAt x vs H Q
theorem mt_popA : MtR X "list.pop" rPopA := MtR.or mt_pop mt_popAt
theorem VRs.eraseIdx {K : PySem.W.Frag} {ρ : List Addr} {H : Hp} : ∀ {l : List Dv} {vs : List V} (n : Nat), VRs K κ ρ H l vs → VRs K κ ρ H (l.eraseIdx n) (vs.eraseIdx n)
  | [], vs, n, h => by simp only [VRs] at h; subst h; simpa using VRs.nil
  | d :: l, vs, 0, h => by
    simp only [VRs] at h
    obtain ⟨v, r, rfl, h1, h2⟩ := h
    simpa using h2
  | d :: l, vs, n + 1, h => by
    simp only [VRs] at h
    obtain ⟨v, r, rfl, h1, h2⟩ := h
    simpa using VRs.cons h1 (VRs.eraseIdx n h2)
theorem L_pop : MtL X κ rPopA tPop := methL fun ρ H l xs ds vs l' d a Q hl hv e ha q => by
  cases ds with
  | nil =>
    simp only at e
    cases e1 : l[l.length - 1]? with
    | none => rw [e1] at e; cases e
    | some z =>
      rw [e1] at e
      cases e
      simp only [VRs] at hv
      obtain ⟨v, e2, e3⟩ := hl.get e1
      refine .inl ⟨a, xs, v, rfl, hv, ha, by rw [hl.length]; exact e2, q _ _ ?_ e3⟩
      rw [List.dropLast_eq_take, List.dropLast_eq_take, hl.length]
      exact VRs.take _ hl
  | cons x r =>
    cases r with
    | cons _ _ => cases x <;> cases e
    | nil =>
      cases x with
      | int i =>
        simp only at e
        cases e1 : ixQ l.length i with
        | none => rw [e1] at e; cases e
        | some k =>
          rw [e1] at e
          simp only at e
          cases e2 : l[k]? with
          | none => rw [e2] at e; cases e
          | some z =>
            rw [e2] at e
            simp only at e
            by_cases hi : -(2 ^ 63) ≤ i ∧ i < 2 ^ 63
            · rw [if_pos hi] at e
              cases e
              simp only [VRs] at hv
              obtain ⟨v, r', rfl, h1, rfl⟩ := hv
              obtain ⟨u, e3, e4⟩ := hl.get e2
              exact .inr ⟨a, xs, i, k, u, rfl, by rw [h1.int], ha, hi.1, hi.2, (ixN_seq (n := xs.length) (by rw [hl.length]; exact e1)).1, e3, q _ _ (VRs.eraseIdx k hl) e4⟩
            · rw [if_neg hi] at e; cases e
      | _ => cases e
theorem L_clear : MtL X κ rClear tClear := methL fun ρ H l xs ds vs l' d a Q hl hv e ha q => by
  cases ds with
  | nil =>
    cases e
    simp only [VRs] at hv
    exact ⟨a, xs, rfl, hv, ha, q _ _ .nil (by simp only [VR])⟩
  | cons _ _ => cases e
theorem findE_ok (a : PyData) : ∀ {bs : List PyData} {n : Nat}, findE a bs = some n → ∃ z, bs[n]? = some z ∧ PyData.eqv z a = true ∧ ∀ (m : Nat) z', m < n → bs[m]? = some z' → PyData.eqv z' a = false
  | [], n, e => by cases e
  | b :: r, n, e => by
    unfold findE at e
    by_cases h : PyData.eqv b a = true
    · rw [if_pos h] at e; cases e
      exact ⟨b, rfl, h, fun m z' hm => absurd hm (Nat.not_lt_zero m)⟩
    · rw [if_neg h] at e
      cases q : findE a r with
      | none => rw [q] at e; cases e
      | some k =>
        rw [q] at e; cases e
        obtain ⟨z, e1, e2, e3⟩ := findE_ok a q
        refine ⟨z, by simpa using e1, e2, fun m z' hm e4 => ?_⟩
        cases m with
        | zero => simp at e4; subst e4; exact Bool.eq_false_iff.mpr h
        | succ m => exact e3 m z' (Nat.lt_of_succ_lt_succ hm) (by simpa using e4)
theorem L_index : MtL X κ (rIndexD X.K) tIndex := meth1 fun W ρ σ H s v u d e Q R hv hu q => by
  cases e1 : bAny.lstQ d s with
  | none => rw [e1] at q; exact q.elim
  | some l =>
    rw [e1] at q
    simp only at q
    cases e2 : dat s 66 e with
    | none => rw [e2] at q; exact q.elim
    | some a =>
      cases e3 : datA (dat s 65) l with
      | none => rw [e2, e3] at q; exact q.elim
      | some bs =>
        rw [e2, e3] at q
        simp only at q
        by_cases hs : SeqAt.shaped a = true ∧ SeqAt.shaped (.list bs) = true
        · rw [if_pos hs] at q
          cases e4 : findE a bs with
          | none => rw [e4] at q; exact q.elim
          | some n =>
            rw [e4] at q
            obtain ⟨z, f1, f2, f3⟩ := findE_ok a e4
            obtain ⟨p, vs, rfl, _, _⟩ := R.lstE hv e1
            exact ⟨p, u, a, bs, n, z, rfl, rfl, lst_dat R hv e1 e3, dat_ok R 66 e u a hu e2, hs.2, hs.1, f1, f2, f3, EndV.ok q R (by simp only [VR])⟩
        · rw [if_neg hs] at q; exact q.elim
/-! ### get, setdefault -/
def rDGetK : V → List V → Hp → VK → Prop := fun x xs H Q => ∃ a y o, x = .ref a ∧ DGet H a y o ∧ ((xs = [y] ∧ Q (o.getD .non) H) ∨ ∃ z, xs = [y, z] ∧ Q (o.getD z) H)
theorem mt_getK (hu : X.A.units + 65 < cLine) : MtR X "dict.get" rDGetK := by
  intro pins s σ H x xs v us Q I rx rxs h
  obtain ⟨a, y, o, rfl, g, h⟩ := h
  obtain rfl : v = Value.ref a := rx
  rcases h with ⟨rfl, q⟩ | ⟨z, rfl, q⟩
  · obtain ⟨u, rfl, ru⟩ := rxs.one
    exact d_get1 (hu1 hu) I g ru fun w' s' I' rw' => ⟨_, H, I', rw', q⟩
  · obtain ⟨u, u2, rfl, ru, ru2⟩ := rxs.two
    exact d_get2 (hu1 hu) I g ru ru2 fun w' s' I' rw' => ⟨_, H, I', rw', q⟩
def rDGetA (K : PySem.W.Frag) (w : World) : V → List V → Hp → VK → Prop := fun x vs H Q => rDGetK x vs H Q ∨ rDGetN K w x vs H Q
theorem mt_get (hu : X.A.units + 65 < cLine) : MtR X "dict.get" (rDGetA X.K X.w) := MtR.or (mt_getK hu) (mt_getN hu)
theorem dgQ_ok {K : PySem.W.Frag} {ρ : List Addr} {H : Hp} {s : Mst} (R : Rel K κ ρ H s) {x y : V} {dx dy : Dv} {o : Option Dv} (hx : VR K κ ρ H dx x) (hy : VR K κ ρ H dy y) (e : dgQ dx dy s = some o) :
    (∃ a ov, x = .ref a ∧ DGet H a y ov ∧ ov.isSome = o.isSome ∧ ∀ d, o = some d → ∃ v, ov = some v ∧ VR K κ ρ H d v) ∨
    ∃ a b k es, x = .ref a ∧ y = .ref b ∧ KeyIs K H b k ∧ NDa κ.w H a es ∧ (∀ e ∈ es, KeyIs K H e.2.1 e.1) ∧ (valE es k).isSome = o.isSome ∧ ∀ d, o = some d → ∃ v, valE es k = some v ∧ VR K κ ρ H d v := by
  unfold dgQ at e
  cases dx with
  | loc n =>
    simp only at e
    cases q : s[n]? with
    | none => rw [q] at e; cases e
    | some ob =>
      rw [q] at e
      cases ob with
      | dK kvs =>
        simp only at e
        obtain ⟨p, _, rfl, h⟩ := R.loc hx q
        cases hk : keyQ dy with
        | none =>
          rw [hk] at e
          simp only at e
          by_cases h0 : kvs.isEmpty = true
          · rw [if_pos h0] at e
            obtain ⟨k, e1, rfl⟩ := Option.map_eq_some_iff.mp e
            obtain ⟨b, rfl, hb⟩ := keyN_ok hy e1
            exact .inr ⟨p, b, k, [], rfl, rfl, hb, OR.dk0 h h0, (fun _ he => by cases he), rfl, (fun _ e => by cases e)⟩
          · rw [if_neg h0] at e; cases e
        | some k =>
          rw [hk] at e
          cases e
          obtain ⟨vs, h1, h2⟩ := OR.dk h
          exact .inl ⟨p, valV vs k, rfl, by rw [keyQ_ok hy hk]; exact DGet.k h1, h2.val.1, h2.val.2⟩
      | dN kvs =>
        simp only at e
        obtain ⟨p, _, rfl, h⟩ := R.loc hx q
        obtain ⟨es, h1, h2, h3, _⟩ := OR.dn h
        obtain ⟨k, e1, rfl⟩ := Option.map_eq_some_iff.mp e
        obtain ⟨b, rfl, hb⟩ := keyN_ok hy e1
        exact .inr ⟨p, b, k, es, rfl, rfl, hb, .inl h1, h3, by rw [← valE_map]; exact h2.val.1, fun d e => by rw [← valE_map]; exact h2.val.2 d e⟩
      | _ => cases e
  | _ => cases e
theorem getD_ok {K : PySem.W.Frag} {ρ : List Addr} {H : Hp} {o : Option Dv} {ov : Option V} {d : Dv} {v : V} (h1 : ov.isSome = o.isSome) (h2 : ∀ d, o = some d → ∃ v, ov = some v ∧ VR K κ ρ H d v) (h : VR K κ ρ H d v) : VR K κ ρ H (o.getD d) (ov.getD v) := by
  cases o with
  | some d' => obtain ⟨v', rfl, h3⟩ := h2 d' rfl; exact h3
  | none =>
    cases ov with
    | none => exact h
    | some _ => cases h1
theorem L_dget (hw : κ.w = X.w) : MtL X κ (rDGetA X.K X.w) tGet := by
  intro W ρ σ H s v vs d ds Q R hd hv q
  have key : ∀ (i : Dv) (u : V) (e : Dv) (z : V) (vs : List V), VR X.K κ ρ H i u → VR X.K κ ρ H e z → EndV X.K κ W ρ σ H (ofO ((dgQ d i s).map fun o => o.getD e) s) Q → ((vs = [u] ∧ z = .non) ∨ vs = [u, z]) → rDGetA X.K X.w v vs H Q := by
    intro i u e z vs hi he q hz
    cases e1 : dgQ d i s with
    | none => rw [e1] at q; exact q.elim
    | some o =>
      rw [e1] at q
      have q' : ∀ ov : Option V, ov.isSome = o.isSome → (∀ d, o = some d → ∃ v, ov = some v ∧ VR X.K κ ρ H d v) → Q (ov.getD z) H := fun ov h1 h2 => EndV.ok q R (getD_ok h1 h2 he)
      rcases dgQ_ok R hd hi e1 with ⟨a, ov, rfl, g, h1, h2⟩ | ⟨a, b, k, es, rfl, rfl, g1, g2, g3, h1, h2⟩
      · refine .inl ⟨a, u, ov, rfl, g, ?_⟩
        rcases hz with ⟨rfl, rfl⟩ | rfl
        · exact .inl ⟨rfl, q' ov h1 h2⟩
        · exact .inr ⟨z, rfl, q' ov h1 h2⟩
      · refine .inr ⟨a, b, k, es, rfl, g1, by rw [← hw]; exact g2, g3, ?_⟩
        rcases hz with ⟨rfl, rfl⟩ | rfl
        · exact .inl ⟨rfl, q' _ h1 h2⟩
        · exact .inr ⟨z, rfl, q' _ h1 h2⟩
  cases ds with
  | nil => exact q.elim
  | cons i ds =>
    simp only [VRs] at hv
    obtain ⟨u, r, rfl, h1, h2⟩ := hv
    cases ds with
    | nil =>
      simp only [VRs] at h2
      subst h2
      exact key i u .non .non [u] h1 (by simp only [VR]) q (.inl ⟨rfl, rfl⟩)
    | cons e ds =>
      simp only [VRs] at h2
      obtain ⟨z, r', rfl, h3, h4⟩ := h2
      cases ds with
      | nil =>
        simp only [VRs] at h4
        subst h4
        exact key i u e z [u, z] h1 h3 q (.inr rfl)
      | cons _ _ => exact q.elim
def rSetdK : V → List V → Hp → VK → Prop := fun x xs H Q => ∃ a kvs k z, x = .ref a ∧ xs = [kV k, z] ∧ H a = some (.dK kvs) ∧ kvs.length < sizeLine ∧ (∀ v, valV kvs k = some v → Q v H) ∧ (valV kvs k = none → Q z (upd H a (.dK (putK kvs k z))))
theorem mt_setdK : MtR X "dict.setdefault" rSetdK := by
  intro pins s σ H x xs v us Q I rx rxs h
  obtain ⟨a, kvs, k, z, rfl, rfl, ha, hl, q1, q2⟩ := h
  obtain rfl : v = Value.ref a := rx
  obtain ⟨u, u2, rfl, ru, ru2⟩ := rxs.two
  exact d_setd I ha ru ru2 hl (fun v hv w' s' I' rw' => ⟨v, H, I', rw', q1 v hv⟩) fun hn w' s' I' rw' => ⟨z, _, I', rw', q2 hn⟩
def rSetdA (K : PySem.W.Frag) (w : World) : V → List V → Hp → VK → Prop := fun x vs H Q => rSetdK x vs H Q ∨ rSetdN K w x vs H Q
theorem mt_setd (hu : X.A.units + 65 < cLine) : MtR X "dict.setdefault" (rSetdA X.K X.w) := MtR.or mt_setdK (mt_setdN hu)
theorem L_setd (hw : κ.w = X.w) : MtL X κ (rSetdA X.K X.w) tSetd := by
  intro W ρ σ H s v vs d ds Q R hd hv q
  match ds, hv, q with
  | [i, e], hv, q =>
    simp only [VRs] at hv
    obtain ⟨u, r, rfl, h1, z, r', rfl, h3, rfl⟩ := hv
    have q' : EndV X.K κ W ρ σ H (setdQ d i e s) Q := q
    unfold setdQ at q'
    cases d with
    | loc n =>
      simp only at q'
      cases q2 : s[n]? with
      | none => rw [q2] at q'; exact q'.elim
      | some ob =>
        rw [q2] at q'
        cases ob with
        | dK kvs =>
          simp only at q'
          obtain ⟨p, e0, rfl, h⟩ := R.loc hd q2
          by_cases hl : kvs.length < 2 ^ 24
          · rw [if_pos hl] at q'
            cases hk : keyQ i with
            | none =>
              rw [hk] at q'
              simp only at q'
              by_cases h0 : kvs.isEmpty = true
              · rw [if_pos h0] at q'
                cases hkn : keyN i with
                | none => rw [hkn] at q'; exact q'.elim
                | some k =>
                  rw [hkn] at q'
                  obtain ⟨b, rfl, hb⟩ := keyN_ok h1 hkn
                  have ho := OR.putN (kvs := []) (es := []) R e0 KR.nil (fun _ he => by cases he) h1 hkn h3
                  refine .inr ⟨p, b, k, [], z, rfl, rfl, hb, by rw [← hw]; exact OR.dk0 h h0, (fun _ he => by cases he), by decide, (fun _ e => by cases e), fun _ => ?_⟩
                  rw [← hw]
                  exact EndV.put q' R e0 ho (VR.later R (Step.put e0) _ _ h3)
              · rw [if_neg h0] at q'; exact q'.elim
            | some k =>
              rw [hk] at q'
              simp only at q'
              obtain ⟨vs, g1, g2⟩ := OR.dk h
              refine .inl ⟨p, vs, k, z, rfl, by rw [keyQ_ok h1 hk], g1, by rw [g2.length]; exact hl, fun v hv => ?_, fun hn => ?_⟩
              · have g3 := (g2.val (k := k)).1
                rw [hv] at g3
                cases e1 : kval kvs k with
                | none => rw [e1] at g3; cases g3
                | some d' =>
                  rw [e1] at q'
                  obtain ⟨v', e2, e3⟩ := g2.val.2 d' e1
                  rw [hv] at e2; cases e2
                  exact EndV.ok q' R e3
              · have g3 := (g2.val (k := k)).1
                rw [hn] at g3
                cases e1 : kval kvs k with
                | some d' => rw [e1] at g3; cases g3
                | none =>
                  rw [e1] at q'
                  have r := (g2.put (k := k) h3).kp ((Step.put (H := H) (o := .dK (putK vs k z)) e0).kp R)
                  exact EndV.put q' R e0 ⟨_, upd_same, r.1, r.2⟩ (VR.later R (Step.put e0) _ _ h3)
          · rw [if_neg hl] at q'; exact q'.elim
        | dN kvs =>
          simp only at q'
          obtain ⟨p, e0, rfl, h⟩ := R.loc hd q2
          by_cases hl : kvs.length < 2 ^ 24
          · rw [if_pos hl] at q'
            cases hk : keyN i with
            | none => rw [hk] at q'; exact q'.elim
            | some k =>
              rw [hk] at q'
              simp only at q'
              obtain ⟨es, g1, g2, g5, g4⟩ := OR.dn h
              obtain ⟨b, rfl, hb⟩ := keyN_ok h1 hk
              refine .inr ⟨p, b, k, es, z, rfl, rfl, hb, .inl (by rw [← hw]; exact g1), g5, by have := g2.length; rw [List.length_map] at this; rw [this]; exact hl, fun v hv => ?_, fun hn => ?_⟩
              · rw [← valE_map] at hv
                have g3 := (g2.val (k := k)).1
                rw [hv] at g3
                cases e1 : kval kvs k with
                | none => rw [e1] at g3; cases g3
                | some d' =>
                  rw [e1] at q'
                  obtain ⟨v', e2, e3⟩ := g2.val.2 d' e1
                  rw [hv] at e2; cases e2
                  exact EndV.ok q' R e3
              · rw [← valE_map] at hn
                have g3 := (g2.val (k := k)).1
                rw [hn] at g3
                cases e1 : kval kvs k with
                | some d' => rw [e1] at g3; cases g3
                | none =>
                  rw [e1] at q'
                  have ho := OR.putN R e0 g2 g4 h1 hk h3
                  rw [← hw]
                  exact EndV.put q' R e0 ho (VR.later R (Step.put e0) _ _ h3)
          · rw [if_neg hl] at q'; exact q'.elim
        | _ => exact q'.elim
    | _ => exact q'.elim
  | [], hv, q => exact q.elim
  | [_], hv, q => exact q.elim
  | _ :: _ :: _ :: _, hv, q => exact q.elim
/-! ### len(set(..)) -/
theorem metI_eq (ns : List Int) : metI [] ns = PyProof.Rows.firstMet (fun i => ns.getD i 0) ns.length := by
  have e : (List.range ns.length).map (fun i => ns.getD i 0) = ns := List.ext_getElem (by simp) fun i h1 h2 => by simp [h2]
  have g : ∀ (l acc : List Int), metI acc l = l.foldl PyProof.Rows.step_dedup acc := by
    intro l
    induction l with
    | nil => intro acc; rfl
    | cons i r ih =>
      intro acc
      unfold metI PyProof.Rows.step_dedup
      rw [List.foldl_cons]
      by_cases h : i ∈ acc
      · rw [if_pos h, ih, if_pos (by simpa using h)]; rfl
      · rw [if_neg h, ih, if_neg (by simpa using h)]; rfl
  unfold PyProof.Rows.firstMet
  rw [e, g]
end
section
variable {X : Cx} {κ : Kap} {W : WX}
def tLenSet (K : PySem.W.Frag) (ta : TE) : TE := fun σ H Q => ta σ H fun x H1 => ∃ (l : Addr) (ns : List Int), x = .ref l ∧ SqL K H1 l (ns.map V.int) ∧ ns.length < 4000 ∧ Q (.int (metI [] ns).length) H1
theorem pe_lenSet {a : Expr} {ta : TE} {p p2 q pos : Pos} (hc : X.calm = true) (hg : Gl X "len") (hm : X.mg "len" = none) (hg2 : Gl X "set") (hm2 : X.mg "set" = none) (ha : PE X a ta) (na : starEach [a] X.env = (false, eval a X.env) :: starEach [] X.env) :
    PE X (.Call (.Name "len" p) [.Call (.Name "set" p2) [a] [] q] [] pos) (tLenSet X.K ta) := by
  refine ⟨fun pins s σ H Q I h => PyProof.Rows.Call_ (ld_blt I hg hm boot_len (PyProof.Rows.callWith_builtin1 (PyProof.Rows.args_cons (PyProof.Rows.Call_ (ld_blt I hg2 hm2 PyProof.Rows.boot_set ?_)) rfl) rfl rfl))⟩
  refine PyProof.Rows.callWith_type1 (PyProof.Rows.args_cons (thn (ha.run pins s σ H _ I h) fun v s1 ⟨x, H1, I1, r1, q1⟩ => PyProof.Rows.args_nil ?_) na) na rfl
  obtain ⟨l, ns, rfl, hq, hlt, q1⟩ := q1
  cases r1
  obtain ⟨its, r, pl, hz⟩ := I1.list hq
  have hlen : its.toArray.size = ns.length := by rw [List.size_toArray, ← r.length, List.length_map]
  refine call_set_list (ns := ns) (I1.ok.hd hc) pl.isList (by simpa using r.ints) (by rw [hlen]; unfold scanBound; omega) fun h' tk hS hk => PyProof.Rows.args_nil ?_
  rw [hlen, ← metI_eq] at hS
  obtain ⟨o, es, ep, t, ho, hex, hd, _, _, _, hf, hn⟩ := hS
  have hml : (metI [] ns).length ≤ ns.length := by rw [metI_eq]; exact PyProof.Rows.firstMet_length_le _ _
  have I2 : Inv X pins σ H1 { s1 with heap := h', toks := tk } := I1.kept fun b o e => hk b o (Heap.lt_size e) e
  exact call_len_set ho hex hd hf (by rw [hn]; omega) ⟨.int (metI [] ns).length, H1, I2.tok _, ⟨_, by rw [hn]⟩, q1⟩
theorem le_lenSet {a : Expr} {ma : ME} {p p2 q pos : Pos} (hc : X.calm = true) (hg : Gl X "len") (hm : X.mg "len" = none) (hg2 : Gl X "set") (hm2 : X.mg "set" = none) (ha : LE X κ W a ma) (na : starEach [a] X.env = (false, eval a X.env) :: starEach [] X.env := by rfl) :
    LE X κ W (.Call (.Name "len" p) [.Call (.Name "set" p2) [a] [] q] [] pos) (mCall bLenSet [ma]) :=
  PE.by (pe_lenSet hc hg hm hg2 hm2 ha na) fun σ H Q ⟨ρ, σd, s, R, hE, h⟩ => ⟨ρ, σd, s, R, hE, (Fin.bind (f := fun d s => bLenSet [d] s) (by
      have h' := h
      unfold mCall mArgs mArgs at h'
      cases e : ma σd s with
      | ok d s1 => rw [e] at h'; exact h'
      | er z s1 => rw [e] at h'; exact h'
      | bad => rw [e] at h'; exact h')).mono fun d ρ1 s1 H1 x1 R1 q v hv => by
    unfold bLenSet f1 at q
    simp only at q
    cases e : bAny.lstQ d s1 with
    | none => rw [e] at q; exact q.elim
    | some l =>
      rw [e] at q
      simp only [Option.bind_some] at q
      cases e2 : intsQ l with
      | none => rw [e2] at q; exact q.elim
      | some ns =>
        rw [e2] at q
        simp only at q
        by_cases hl : ns.length < 4000
        · rw [if_pos hl] at q
          obtain ⟨p, vs, rfl, h1, h2⟩ := R1.lstE hv e
          obtain ⟨rfl, _⟩ := intsQ_ok h2 e2
          exact ⟨p, ns, rfl, h1, hl, EndV.ok q R1 (by simp only [VR])⟩
        · rw [if_neg hl] at q; exact q.elim⟩
end
end Mid
/-! Mid9: sorted, dicts of pairs, update, count, join, zip. -/
namespace Mid
open PySem PySem.Spec L2 Classical

theorem risingS_all : ∀ (l : List Str) (p : Str), PyProof.Rows.risingS p l = true → (p :: l).Pairwise leS
  | [], p, _ => by simp
  | x :: r, p, h => by
    have h' : (!ltCps x.cps.toList p.cps.toList && PyProof.Rows.risingS x r) = true := h
    rw [Bool.and_eq_true] at h'
    have h1 : leS p x := by
      have q := h'.1
      rw [PyProof.Rows.ltCps_eq] at q
      simpa [leS] using q
    have h2 := risingS_all r x h'.2
    refine List.pairwise_cons.mpr ⟨fun y hy => ?_, h2⟩
    rcases List.mem_cons.mp hy with rfl | hy
    · exact h1
    · exact leS_trans h1 (List.rel_of_pairwise_cons h2 hy)
theorem srtS_one {l m : List Str} (hp : m.Perm l) (h : PyProof.Rows.sortedS m = true) : m = srtS l := by
  refine perm_one leS_anti (hp.trans (srtS_perm l).symm) ?_ (srtS_rising l)
  cases m with
  | nil => exact .nil
  | cons x r => exact risingS_all r x h

section
variable {K : PySem.W.Frag} {κ : Kap} {ρ : List Addr} {H : Hp}
theorem strsQ_ok : ∀ {l : List Dv} {vs : List V} {ns : List Str}, VRs K κ ρ H l vs → strsQ l = some ns → vs = ns.map V.str ∧ l = ns.map Dv.str
  | [], vs, ns, h, e => by simp only [VRs] at h; cases e; exact ⟨h, rfl⟩
  | d :: l, vs, ns, h, e => by
    simp only [VRs] at h
    obtain ⟨v, r, rfl, h1, h2⟩ := h
    cases d with
    | str i =>
      unfold strsQ at e
      cases q : strsQ l with
      | none => rw [q] at e; cases e
      | some ms =>
        rw [q] at e; cases e
        obtain ⟨e1, e2⟩ := strsQ_ok h2 q
        exact ⟨by rw [List.map_cons, ← e1, h1.str], by rw [List.map_cons, ← e2]⟩
    | _ => cases e
theorem VRs.ints (ns : List Int) : VRs K κ ρ H (ns.map Dv.int) (ns.map V.int) := by
  induction ns with
  | nil => exact .nil
  | cons n r ih => exact .cons (by simp only [VR]) ih
theorem VRs.strs (ns : List Str) : VRs K κ ρ H (ns.map Dv.str) (ns.map V.str) := by
  induction ns with
  | nil => exact .nil
  | cons n r ih => exact .cons (by simp only [VR]) ih
/-- the keys of a dict, as values -/
theorem keysQ_ints : ∀ {ks : List KeyQ} {ns : List Int}, intsQ (ks.map keyD) = some ns → ks = ns.map Sum.inl
  | [], ns, e => by cases e; rfl
  | k :: ks, ns, e => by
    cases k with
    | inl i =>
      simp only [List.map_cons, keyD, intsQ] at e
      cases q : intsQ (ks.map keyD) with
      | none => rw [q] at e; cases e
      | some ms => rw [q] at e; cases e; rw [List.map_cons, ← keysQ_ints q]
    | inr x => simp [keyD, intsQ] at e
theorem keysQ_strs : ∀ {ks : List KeyQ} {ns : List Str}, strsQ (ks.map keyD) = some ns → ks = ns.map Sum.inr
  | [], ns, e => by cases e; rfl
  | k :: ks, ns, e => by
    cases k with
    | inr i =>
      simp only [List.map_cons, keyD, strsQ] at e
      cases q : strsQ (ks.map keyD) with
      | none => rw [q] at e; cases e
      | some ms => rw [q] at e; cases e; rw [List.map_cons, ← keysQ_strs q]
    | inl x => simp [keyD, strsQ] at e
end

section
variable {X : Cx} {κ : Kap} {W : WX}
/-- sorted(d) of a dict, all its keys ints, any number of them -/
def rSortedDI (H0 : Hp) : List V → Hp → VK → Prop := fun xs H Q => ∃ (a : Addr) (kvs : List (Key × V)) (ks : List Int), xs = [.ref a] ∧ Rd H a (.dK kvs) ∧ kvs.map (·.1) = ks.map Sum.inl ∧
    ∀ (ys : List Int) (p : Addr), ys.Perm ks → ys.Pairwise (· ≤ ·) → H p = none → Q (.ref p) (upd H p (.lst (ys.map V.int)))
theorem cr_sortedDI (hcalm : X.calm = true) : CallR X (.builtin "sorted") (rSortedDI X.H_0) := by
  intro pins s σ H xs us Q I r hq
  obtain ⟨a, kvs, ks, ex, hd, hks, fin⟩ := hq
  subst ex
  obtain ⟨u0, eu, rx⟩ := vals1 r
  subst eu
  cases rx
  obtain ⟨hz, lo, vs, rel, dd⟩ := dk_rd I.hok hd
  obtain ⟨ep, hat⟩ := dd.dictAt
  have keys : vs.map (·.1) = ks.map Sum.inl := rel.keys.symm.trans hks
  have len1 : vs.length = ks.length := by simpa using congrArg List.length keys
  have len2 : kvs.length = ks.length := by simpa using congrArg List.length hks
  have big : vs.length ≤ sizeLine := by rw [len1, ← len2]; exact hz
  refine Calls.call_function_entry PyProof.Rows.kind_sorted PyProof.Rows.plain_sorted PyProof.Rows.entry_sorted (PyProof.Rows.args_sorted1 _) ?_
  unfold Builtin.«sorted»
  refine wpAny_bind (m := checkCount "sorted" 1 1 _) (wpAny_pure (wpAny_bind ?_))
  refine PySem.W.kdu_collect (A := X.A.in1) (PySem.W.kdl_dict (knd := mixKind X.prog X.w) (kvs := vs) (ep := ep) lo) (I.ok.hd hcalm) hat big fun g tk acc keep got => ?_
  have len3 : acc.toList.length = ks.length := by rw [Array.length_toList, got.1, len1]
  have hS : PyProof.Rows.IntsAre acc.toList ks := L2.ints_each len3 fun j v e => by
    obtain ⟨k, y, e1, e2⟩ := got.2 j v (by rw [← Array.getElem?_toList]; exact e)
    have e3 : (vs.map (·.1))[j]? = some k := by rw [List.getElem?_map, e1]; rfl
    rw [keys, List.getElem?_map] at e3
    cases e4 : ks[j]? with
    | none => rw [e4] at e3; cases e3
    | some i =>
      rw [e4] at e3
      obtain rfl : Sum.inl i = k := Option.some.inj e3
      obtain ⟨t, ev⟩ := Value.isInt_shape (k := i) (v := v) e2
      exact ⟨i, t, rfl, ev⟩
  have I1 : Inv X pins σ H { s with heap := g, toks := tk } := I.kept keep
  have big2 : acc.toList.length ≤ sizeLine := by rw [len3, ← len1]; exact big
  refine wpAny_bind (wpAny_newList ?_ big2)
  have at0 : (g.push (PyProof.Rows.seqObj "list" acc.toList.toArray 0)).get? g.objs.size = some (PyProof.Rows.seqObj "list" acc.toList.toArray 0) := Heap.get?_push_size _ rfl
  show wpAny _ _ _ _ _ { s with heap := g.push (PyProof.Rows.seqObj "list" acc.toList.toArray 0), toks := tk }
  refine wpAny_bind (wpAny_holding (wpAny_call_entry PyProof.Rows.slot_list_sort ⟨_, at0, rfl⟩ PyProof.Rows.entry_list_sort
    (SrtO.list_sort_ord (s := { s with heap := g.push (PyProof.Rows.seqObj "list" acc.toList.toArray 0), toks := tk }) SrtO.swo_int at0 big2 (fun h2 => SrtO.ints_sortable hS h2) fun out h1 h2 => ⟨_, rfl, ?_⟩) (PyProof.Rows.args_list_sort _)))
  obtain ⟨k1, k2, k3⟩ := SrtO.ints_out hS h1 h2
  obtain ⟨e', he'⟩ := PyProof.Rows.sortedHeap_at (vs := acc.toList) (out := out.toArray) at0
  have len4 : ((out.map SrtO.iv).map V.int).length ≤ sizeLine := by
    rw [List.length_map, k2.length_eq, ← len1]
    exact big
  refine wpAny_pure ⟨_, rfl, .ref g.objs.size, upd H g.objs.size (.lst ((out.map SrtO.iv).map V.int)), I1.laid (t' := tk) (fun b u e => ?_) (Nat.le_refl _)
    ⟨len4, out, e', vals_of_ints k1, he'⟩, rfl, fin _ _ k2 k3 (I1.hok.fresh (Nat.le_refl _))⟩
  have hb : b < g.objs.size := Heap.lt_size e
  rw [PyProof.Rows.sortedHeap_old (Nat.ne_of_lt hb) (by show b < (g.push _).objs.size; rw [Heap.size_push]; exact Nat.lt_succ_of_lt hb)]
  exact Heap.get?_push_of_some _ e

def rSortedA (K : PySem.W.Frag) (H0 : Hp) : List V → Hp → VK → Prop := fun xs H Q => ((rSortedI K xs H Q ∨ rSortedS K xs H Q) ∨ rSortedDI H0 xs H Q) ∨ (∃ (a : Addr) (kvs : List (Key × V)) (ks : List Str), xs = [.ref a] ∧ Rd H a (.dK kvs) ∧ kvs.map (·.1) = ks.map Sum.inr ∧ ks.length < 64 ∧
    ∀ ys p, ys.Perm ks → PyProof.Rows.sortedS ys = true → H p = none → Q (.ref p) (upd H p (.lst (ys.map V.str))))
theorem cr_sortedA (hc : X.calm = true) : CallR X (.builtin "sorted") (rSortedA X.K X.H_0) := CallR.or (CallR.or (CallR.or cr_sortedI cr_sortedS) (cr_sortedDI hc)) (call_sortedD hc)
theorem L_sorted : CallL X κ (rSortedA X.K X.H_0) bSorted := call1 fun W ρ σ H s v d Q R hv q => by
  cases e : bAny.lstQ d s with
  | some l =>
    rw [e] at q
    simp only at q
    obtain ⟨a, vs, rfl, h1, h2⟩ := R.lstE hv e
    unfold srtQ at q
    cases e1 : intsQ l with
    | some ns =>
      rw [e1] at q
      simp only at q
      obtain ⟨rfl, rfl⟩ := intsQ_ok h2 e1
      exact .inl (.inl (.inl ⟨a, ns, rfl, h1, fun ns' p hp hr np => by rw [srtI_one hp hr]; exact EndV.newL q R np (VRs.ints _)⟩))
    | none =>
      rw [e1] at q
      simp only at q
      cases e2 : strsQ l with
      | none => rw [e2] at q; exact q.elim
      | some xs =>
        rw [e2] at q
        simp only at q
        by_cases h64 : xs.length < 64
        · rw [if_pos h64] at q
          obtain ⟨rfl, rfl⟩ := strsQ_ok h2 e2
          exact .inl (.inl (.inr ⟨a, xs, rfl, h1, h64, fun ys p hp hr np => by rw [srtS_one hp hr]; exact EndV.newL q R np (VRs.strs _)⟩))
        · rw [if_neg h64] at q; exact q.elim
  | none =>
    rw [e] at q
    simp only at q
    cases d with
    | loc n =>
      simp only at q
      cases q2 : s[n]? with
      | none => rw [q2] at q; exact q.elim
      | some o =>
        rw [q2] at q
        cases o with
        | dK kvs =>
          simp only at q
          obtain ⟨a, _, rfl, h⟩ := R.loc hv q2
          obtain ⟨vs, e2, e3⟩ := OR.dk h
          have ek : (kvs.map fun kv => keyD kv.1) = (kvs.map (·.1)).map keyD := by rw [List.map_map]; rfl
          rw [ek] at q
          unfold srtQ at q
          cases e1 : intsQ ((kvs.map (·.1)).map keyD) with
          | some ns =>
            rw [e1] at q
            simp only at q
            exact .inl (.inr ⟨a, vs, ns, rfl, .inl e2, e3.1.trans (keysQ_ints e1), fun ys p hp hr np => by rw [srtI_one hp hr]; exact EndV.newL q R np (VRs.ints _)⟩)
          | none =>
            rw [e1] at q
            simp only at q
            cases e4 : strsQ ((kvs.map (·.1)).map keyD) with
            | none => rw [e4] at q; exact q.elim
            | some xs =>
              rw [e4] at q
              simp only at q
              by_cases h64 : xs.length < 64
              · rw [if_pos h64] at q
                exact .inr ⟨a, vs, xs, rfl, .inl e2, e3.1.trans (keysQ_strs e4), h64, fun ys p hp hr np => by rw [srtS_one hp hr]; exact EndV.newL q R np (VRs.strs _)⟩
              · rw [if_neg h64] at q; exact q.elim
        | _ => exact q.elim
    | _ => exact q.elim
/-! ### dict of pairs, update -/
theorem pairsQ_ok {K : PySem.W.Frag} {ρ : List Addr} {H : Hp} : ∀ {l : List Dv} {vs : List V} {kvs : List (KeyQ × Dv)}, VRs K κ ρ H l vs → pairsQ l = some kvs →
    ∃ (ps : List Addr) (ws : List (Key × V)), vs = ps.map V.ref ∧ KR K κ ρ H kvs ws ∧ Paired (fun p kv => SqT K H p [kV kv.1, kv.2]) ps ws
  | [], vs, kvs, h, e => by simp only [VRs] at h; cases e; exact ⟨[], [], h, .nil, .nil⟩
  | d :: l, vs, kvs, h, e => by
    simp only [VRs] at h
    obtain ⟨v, r, rfl, h1, h2⟩ := h
    unfold pairsQ at e
    cases q1 : pairQ d with
    | none => rw [q1] at e; cases e
    | some kd =>
      cases q2 : pairsQ l with
      | none => rw [q1, q2] at e; cases e
      | some m =>
        rw [q1, q2] at e
        cases e
        obtain ⟨ps, ws, rfl, e3, e4⟩ := pairsQ_ok h2 q2
        unfold pairQ at q1
        split at q1
        · rename_i k z
          cases q3 : keyQ k with
          | none => rw [q3] at q1; cases q1
          | some kk =>
            rw [q3] at q1
            cases q1
            obtain ⟨a, us, rfl, f2, f3⟩ := h1.tupE
            simp only [VRs] at f3
            obtain ⟨x, r1, rfl, g1, y, r2, rfl, g2, rfl⟩ := f3
            rw [keyQ_ok g1 q3] at f2
            exact ⟨a :: ps, (kk, y) :: ws, rfl, .cons g2 e3, .cons f2 e4⟩
        · cases q1
def rDictP (K : PySem.W.Frag) : List V → Hp → VK → Prop := fun xs H Q => (∃ (a : Addr) (ps : List Addr) (kvs : List (Key × V)), xs = [.ref a] ∧ SqL K H a (ps.map V.ref) ∧ Paired (fun p kv => SqT K H p [kV kv.1, kv.2]) ps kvs ∧ ∀ p, H p = none → Q (.ref p) (upd H p (.dK (mergeK [] kvs)))) ∨
  (∃ (a : Addr) (ps : List Addr) (kvs : List (Key × V)), xs = [.ref a] ∧ SqD K H a (ps.map V.ref) ∧ Paired (fun p kv => SqT K H p [kV kv.1, kv.2]) ps kvs ∧ ∀ p, H p = none → Q (.ref p) (upd H p (.dK (mergeK [] kvs))))
theorem cr_dictP (hc : X.calm = true) : CallR X (.type "dict") (rDictP X.K) := CallR.or (call_dictP hc) (call_dictT hc)
theorem L_dict (hc : X.calm = true) : CallL X κ (rDictP X.K) bDict := call1 fun W ρ σ H s v d Q R hv q => by
  cases e : seqOf d s with
  | none => rw [e] at q; exact q.elim
  | some l =>
    rw [e] at q
    simp only [Option.bind_some] at q
    cases e2 : pairsQ l with
    | none => rw [e2] at q; exact q.elim
    | some kvs =>
      rw [e2] at q
      simp only at q
      rcases seqOf_eq e with rfl | e1
      · obtain ⟨a, vs, rfl, h1, h2⟩ := VR.tupD hv
        obtain ⟨ps, ws, rfl, e3, e4⟩ := pairsQ_ok h2 e2
        refine .inr ⟨a, ps, ws, rfl, h1, e4, fun p np => EndV.new q R np ?_⟩
        have r := (e3.puts KR.nil).kp ((Step.new (ρ := ρ) np (o := .dK (mergeK [] ws))).kp R)
        exact ⟨_, upd_same, r.1, r.2⟩
      · obtain ⟨a, vs, rfl, h1, h2⟩ := R.lstE hv e1
        obtain ⟨ps, ws, rfl, e3, e4⟩ := pairsQ_ok h2 e2
        refine .inl ⟨a, ps, ws, rfl, h1, e4, fun p np => EndV.new q R np ?_⟩
        have r := (e3.puts KR.nil).kp ((Step.new (ρ := ρ) np (o := .dK (mergeK [] ws))).kp R)
        exact ⟨_, upd_same, r.1, r.2⟩
def rUpd : V → List V → Hp → VK → Prop := fun x xs H Q => ∃ (a b : Addr) (kvs more : List (Key × V)), x = .ref a ∧ xs = [.ref b] ∧ a ≠ b ∧ H a = some (.dK kvs) ∧ H b = some (.dK more) ∧ kvs.length + more.length ≤ sizeLine ∧ (mergeK kvs more).length ≤ sizeLine ∧ Q .non (upd H a (.dK (mergeK kvs more)))
theorem mt_update : MtR X "dict.update" rUpd := by
  intro pins s σ H x xs v us Q I rx rxs h
  obtain ⟨a, b, kvs, more, rfl, rfl, hab, ha, hb, hz, hz2, q⟩ := h
  cases rx
  obtain ⟨u, rfl, ru⟩ := rxs.one
  cases ru
  obtain ⟨z1, lo1, vs, rel1, dd1⟩ := dk_of I.hok ha
  obtain ⟨z2, lo2, ws, rel2, dd2⟩ := dk_of I.hok hb
  refine call_meetsIn PySem.F.slot_dict_update dd1.typeIs PySem.F.entry_dict_update (PySem.F.args_dict_update_2 _ _) (meets_dict_update (mixKind X.prog X.w) a b hab lo2) ⟨vs, ws, dd1, dd2, by rw [← rel1.length, ← rel2.length]; exact hz, fun h' d1 _ hs => ?_⟩
  have he : ∃ q, h'.get? a = some q := let ⟨q, _, _, hq, _⟩ := d1; ⟨q, hq⟩
  exact ⟨.non, upd H a (.dK (mergeK kvs more)), I.write (x := a) (e := a) (t' := s.toks) (by rw [ha]; trivial) (.inl rfl) (fun c q hc z => (hs.2 c hc).trans z) he (dk_new hz2 lo1 (rel2.merge rel1) d1), rfl, q⟩
theorem mergeK_len (more : List (Key × V)) : ∀ kvs : List (Key × V), (mergeK kvs more).length ≤ kvs.length + more.length := by
  unfold mergeK
  induction more with
  | nil => intro kvs; simp
  | cons a r ih =>
    intro kvs
    simp only [List.foldl_cons, List.length_cons]
    have := ih (putK kvs a.1 a.2)
    have := length_putK kvs a.1 a.2
    omega
theorem L_update : MtL X κ rUpd tUpdate := meth1 fun W ρ σ H s v u d e Q R hv hu q => by
  cases d with
  | loc n =>
    cases e with
    | loc m =>
      simp only at q
      cases e1 : s[n]? with
      | none => rw [e1] at q; exact q.elim
      | some o1 =>
        rw [e1] at q
        cases o1 with
        | dK kvs =>
          cases e2 : s[m]? with
          | none => rw [e2] at q; exact q.elim
          | some o2 =>
            rw [e2] at q
            cases o2 with
            | dK more =>
              simp only at q
              by_cases hq : n ≠ m ∧ kvs.length + more.length < 2 ^ 24
              · rw [if_pos hq] at q
                obtain ⟨a, a0, rfl, h1⟩ := R.loc hv e1
                obtain ⟨b, b0, rfl, h2⟩ := R.loc hu e2
                obtain ⟨vs, f1, f2⟩ := OR.dk h1
                obtain ⟨ws, g1, g2⟩ := OR.dk h2
                have l1 : vs.length + ws.length ≤ sizeLine := by rw [f2.length, g2.length]; exact Nat.le_of_lt hq.2
                have r := (g2.puts f2).kp ((Step.put (H := H) (o := .dK (mergeK vs ws)) a0).kp R)
                refine ⟨a, b, vs, ws, rfl, rfl, fun z => hq.1 ?_, f1, g1, l1, Nat.le_trans (mergeK_len ws vs) l1, EndV.put q R a0 ⟨_, upd_same, r.1, r.2⟩ (by simp only [VR])⟩
                subst z
                have l1 := (List.getElem?_eq_some_iff.mp a0)
                have l2 := (List.getElem?_eq_some_iff.mp b0)
                exact (List.getElem_inj R.nd).mp (l1.2.trans l2.2.symm)
              · rw [if_neg hq] at q; exact q.elim
            | _ => exact q.elim
        | _ => exact q.elim
    | _ => exact q.elim
  | _ => exact q.elim
/-! ### count, join -/
def rCountD (K : PySem.W.Frag) : V → List V → Hp → VK → Prop := fun x xs H Q => ∃ (a : Addr) (y : V) (d : PyData) (ds : List PyData), x = V.ref a ∧ xs = [y] ∧ Dp K H (V.ref a) (.list ds) ∧ Dp K H y d ∧ SeqAt.shaped (.list ds) = true ∧ SeqAt.shaped d = true ∧ Q (.int (ds.countP fun z => PyData.eqv z d : Nat)) H
theorem mt_countD (hu : X.A.units + 65 < cLine) : MtR X "list.count" (rCountD X.K) := by
  intro pins s σ H x xs v us Q I rx rxs h
  obtain ⟨a, y, d, ds, rfl, rfl, hl, hy, sl, sd, q⟩ := h
  cases rx
  obtain ⟨u, rfl, ru⟩ := rxs.one
  obtain ⟨bs, r1⟩ := Dp.reads I d y u hy ru
  cases hl with
  | lst hs ha =>
    obtain ⟨its, rv, ⟨⟨cls, dd, data, sls⟩, n, ho, hc, hdn, hdt⟩, hlen⟩ := I.list hs
    simp only at hc hdt
    subst hc hdt
    obtain ⟨as, h4⟩ := Dp.readsAll I ds _ its ha rv
    have lay : PyData.canLayAll0 ds = true := SeqAt.canLay_of_shaped sl
    have room : X.A.units + 1 + min (PyData.depthAll ds) d.depth < cLine := PyProof.Rows.room_in_shaped sd hu
    have mp : its.map (SeqAt.readOf s.heap) = ds := SeqAt.readsAll_map ds its as lay h4
    refine call_meets PySem.F.slot_list_count ⟨_, ho, rfl⟩ PySem.F.entry_list_count (PySem.F.args_list_count_2 _ _)
      (SeqAt.list_countAt a its.toArray n dd sls u fun z => PyData.eqv (SeqAt.readOf s.heap z) d) ⟨ho, SeqAt.items_eqAt (vs := its.toArray) (show ReadsAll s.heap its.toArray.toList ds as from h4) r1 lay (SeqAt.canLay_of_shaped sd) room, ?_⟩
    refine ⟨.int (ds.countP fun z => PyData.eqv z d : Nat), H, I.tok _, ⟨s.toks, ?_⟩, q⟩
    rw [← mp, List.countP_map]
    rfl
theorem L_count : MtL X κ (rCountD X.K) tCount := meth1 fun W ρ σ H s v u d e Q R hv hu q => by
  cases e1 : bAny.lstQ d s with
  | none => rw [e1] at q; exact q.elim
  | some l =>
    rw [e1] at q
    simp only at q
    cases e2 : dat s 66 e with
    | none => rw [e2] at q; exact q.elim
    | some a =>
      cases e3 : datA (dat s 65) l with
      | none => rw [e2, e3] at q; exact q.elim
      | some bs =>
        rw [e2, e3] at q
        simp only at q
        by_cases hs : SeqAt.shaped a = true ∧ SeqAt.shaped (.list bs) = true
        · rw [if_pos hs] at q
          obtain ⟨p, vs, rfl, _, _⟩ := R.lstE hv e1
          exact ⟨p, u, a, bs, rfl, rfl, lst_dat R hv e1 e3, dat_ok R 66 e u a hu e2, hs.2, hs.1, EndV.ok q R (by simp only [VR])⟩
        · rw [if_neg hs] at q; exact q.elim
theorem L_join : MtL X κ (fun x xs H Q => ∃ a p, ∃ ys : List Str, x = .str a ∧ xs = [.ref p] ∧ (SqL X.K H p (ys.map V.str) ∨ SqT X.K H p (ys.map V.str)) ∧ (ys.map (·.length)).sum + ys.length * a.length ≤ 16777216 ∧ Q (.str (Txt.join a ys)) H) tJoin := meth1 fun W ρ σ H s v u d e Q R hv hu q => by
  cases d with
  | str z =>
    cases e1 : seqOf e s with
    | none => rw [e1] at q; exact q.elim
    | some l =>
      rw [e1] at q
      simp only [Option.bind_some] at q
      cases e2 : strsQ l with
      | none => rw [e2] at q; exact q.elim
      | some ys =>
        rw [e2] at q
        simp only at q
        by_cases hz : (ys.map (·.length)).sum + ys.length * z.length ≤ 16777216
        · rw [if_pos hz] at q
          rcases seqOf_eq e1 with rfl | e3
          · obtain ⟨a, vs, rfl, f2, f3⟩ := VR.tupE hu
            exact ⟨z, a, ys, hv.str, rfl, .inr (by rw [← (strsQ_ok f3 e2).1]; exact f2), hz, EndV.ok q R (by simp only [VR]; rw [TL.join_eq])⟩
          · obtain ⟨a, vs, rfl, h1, h2⟩ := R.lstE hu e3
            exact ⟨z, a, ys, hv.str, rfl, .inl (by rw [← (strsQ_ok h2 e2).1]; exact h1), hz, EndV.ok q R (by simp only [VR]; rw [TL.join_eq])⟩
        · rw [if_neg hz] at q; exact q.elim
  | _ => exact q.elim
end
/-! ### zip, list(range) -/
section
variable {X : Cx} {κ : Kap} {W : WX} {pos p tpos : Pos} {a b : Expr} {ma mb : ME} {elts : List Expr} {kk : Nat}
theorem zipWith_get {α β γ : Type} {f : α → β → γ} {l : List α} {m : List β} {i : Nat} {z : γ} (h : (List.zipWith f l m)[i]? = some z) : ∃ x y, l[i]? = some x ∧ m[i]? = some y ∧ z = f x y := by
  rw [List.getElem?_zipWith] at h
  cases e1 : l[i]? with
  | none => rw [e1] at h; simp at h
  | some x =>
    cases e2 : m[i]? with
    | none => rw [e1, e2] at h; simp at h
    | some y => rw [e1, e2] at h; simp at h; exact ⟨x, y, rfl, rfl, h.symm⟩
theorem stays_app : ∀ {r q : List (Nat × List Dv)} {s : Mst}, Mit.stays (r ++ q) s → Mit.stays r s ∧ Mit.stays q s
  | [], q, s, h => ⟨trivial, h⟩
  | (n, l) :: r, q, s, h => by
    obtain ⟨h1, h2⟩ := h
    obtain ⟨h3, h4⟩ := stays_app h2
    exact ⟨⟨h1, h3⟩, h4⟩
theorem zipQ_ok {K : PySem.W.Frag} {ρ : List Addr} {H : Hp} {s : Mst} (R : Rel K κ ρ H s) {d : Dv} {v : V} (h : VR K κ ρ H d v) {c : Bool} {l : List Dv} {r : List (Nat × List Dv)} (e : zipQ d s = some (c, l, r)) :
    ∃ t, v = .ref t ∧ ∀ ρ1 H1 s1, Kp ρ H ρ1 H1 → Rel K κ ρ1 H1 s1 → Mit.stays r s1 → ∃ vs, (if c then SqT K H1 t vs else SqL K H1 t vs) ∧ VRs K κ ρ1 H1 l vs := by
  unfold zipQ at e
  cases d with
  | tup m =>
    cases e
    obtain ⟨t, vs, rfl, e2, e3⟩ := h.tupE
    exact ⟨t, rfl, fun ρ1 H1 s1 kp R1 st => ⟨vs, SqT.kp kp e2, VRs.kp kp _ _ e3⟩⟩
  | clst m =>
    cases e
    obtain ⟨t, vs, rfl, e2, e3⟩ := h.clstE
    exact ⟨t, rfl, fun ρ1 H1 s1 kp R1 st => ⟨vs, SqI.list (SqI.kp kp e2), VRs.kp kp _ _ e3⟩⟩
  | loc n =>
    simp only at e
    cases q : s[n]? with
    | none => rw [q] at e; cases e
    | some o =>
      rw [q] at e
      cases o with
      | lst m =>
        cases e
        obtain ⟨t, t0, rfl, _⟩ := R.loc h q
        exact ⟨t, rfl, fun ρ1 H1 s1 kp R1 st => by
          obtain ⟨vs, e1, e2⟩ := R1.obj n t _ (kp.ix n t t0) st.1
          exact ⟨vs, .of e1, e2⟩⟩
      | _ => cases e
  | _ => cases e
theorem it_zip {ρ : List Addr} {H : Hp} {t u : Addr} {l m : List Dv} {r q : List (Nat × List Dv)} (h1 : ∀ ρ1 H1 s1, Kp ρ H ρ1 H1 → Rel X.K κ ρ1 H1 s1 → Mit.stays r s1 → ∃ vs, SqL X.K H1 t vs ∧ VRs X.K κ ρ1 H1 l vs)
    (h2 : ∀ ρ1 H1 s1, Kp ρ H ρ1 H1 → Rel X.K κ ρ1 H1 s1 → Mit.stays q s1 → ∃ vs, SqL X.K H1 u vs ∧ VRs X.K κ ρ1 H1 m vs) : ItOk X.K κ ρ H ⟨List.zipWith (fun x y => .ptup [x, y]) l m, r ++ q⟩ (Itz X.K t u) := fun ρ1 H1 s1 kp R st => by
  obtain ⟨st1, st2⟩ := stays_app st
  obtain ⟨vs, a1, a2⟩ := h1 ρ1 H1 s1 kp R st1
  obtain ⟨us, b1, b2⟩ := h2 ρ1 H1 s1 kp R st2
  refine ⟨fun i z e => ?_, fun i hi => ⟨vs, us, a1, b1, ?_⟩⟩
  · obtain ⟨x, y, e1, e2, rfl⟩ := zipWith_get e
    obtain ⟨vx, f1, f2⟩ := a2.get e1
    obtain ⟨vy, g1, g2⟩ := b2.get e2
    refine ⟨⟨vs, us, vx, vy, a1, b1, f1, g1⟩, fun v H' w => ?_⟩
    obtain ⟨T, x', y', rfl, nT, rfl, w1, w2⟩ := w
    have ex := w1 vs a1
    have ey := w2 us b1
    rw [f1] at ex; cases ex
    rw [g1] at ey; cases ey
    refine ⟨Step.lay nT, R.lay nT, ?_⟩
    simp only [VR]
    exact ⟨T, [vx, vy], rfl, .inl (.inl upd_same), .cons (VR.later R (Step.lay nT) _ _ f2) (.cons (VR.later R (Step.lay nT) _ _ g2) .nil)⟩
  · rw [a2.length, b2.length]
    simp only [List.length_zipWith] at hi
    omega
theorem it_zipT {ρ : List Addr} {H : Hp} {t u : Addr} {l m : List Dv} {r q : List (Nat × List Dv)} (h1 : ∀ ρ1 H1 s1, Kp ρ H ρ1 H1 → Rel X.K κ ρ1 H1 s1 → Mit.stays r s1 → ∃ vs, SqT X.K H1 t vs ∧ VRs X.K κ ρ1 H1 l vs)
    (h2 : ∀ ρ1 H1 s1, Kp ρ H ρ1 H1 → Rel X.K κ ρ1 H1 s1 → Mit.stays q s1 → ∃ vs, SqT X.K H1 u vs ∧ VRs X.K κ ρ1 H1 m vs) : ItOk X.K κ ρ H ⟨List.zipWith (fun x y => .ptup [x, y]) l m, r ++ q⟩ (RZ.ItzT X.K t u) := fun ρ1 H1 s1 kp R st => by
  obtain ⟨st1, st2⟩ := stays_app st
  obtain ⟨vs, a1, a2⟩ := h1 ρ1 H1 s1 kp R st1
  obtain ⟨us, b1, b2⟩ := h2 ρ1 H1 s1 kp R st2
  refine ⟨fun i z e => ?_, fun i hi => ⟨vs, us, a1, b1, ?_⟩⟩
  · obtain ⟨x, y, e1, e2, rfl⟩ := zipWith_get e
    obtain ⟨vx, f1, f2⟩ := a2.get e1
    obtain ⟨vy, g1, g2⟩ := b2.get e2
    refine ⟨⟨vs, us, vx, vy, a1, b1, f1, g1⟩, fun v H' w => ?_⟩
    obtain ⟨T, x', y', rfl, nT, rfl, w1, w2⟩ := w
    have ex := w1 vs a1
    have ey := w2 us b1
    rw [f1] at ex; cases ex
    rw [g1] at ey; cases ey
    refine ⟨Step.lay nT, R.lay nT, ?_⟩
    simp only [VR]
    exact ⟨T, [vx, vy], rfl, .inl (.inl upd_same), .cons (VR.later R (Step.lay nT) _ _ f2) (.cons (VR.later R (Step.lay nT) _ _ g2) .nil)⟩
  · rw [a2.length, b2.length]
    simp only [List.length_zipWith] at hi
    omega
theorem li_zip (hg : Gl X "zip") (hm : X.mg "zip" = none) (ha : LE X κ W a ma) (hb : LE X κ W b mb) (hs : starEach [a, b] X.env = (false, eval a X.env) :: starEach [b] X.env := by rfl) (hs2 : starEach [b] X.env = (false, eval b X.env) :: starEach [] X.env := by rfl)
    (hpl : (backTo pos (starEach [b] X.env)).any (·.1) = false := by rfl) : LI X κ W (.Tuple elts kk tpos) (.Call (.Name "zip" p) [a, b] [] pos) (miZip ma mb) :=
  PI.by (RZ.pi_zipA hg hm (pa_cons ha (pa_cons hb pa_nil hs2) hs) hs hpl) fun σ H Q ⟨ρ, σd, s, R, hE, h⟩ => ⟨ρ, σd, s, R, hE, (Fin.bind h).mono fun d ρ1 s1 H1 x1 R1 q v hv => ⟨ρ1, σd, s1, R1, hE.later R x1, (Fin.bind q).mono fun e ρ2 s2 H2 x2 R2 q2 u hu => by
    have hv2 := VR.later R1 x2 _ _ hv
    cases e1 : zipQ d s2 with
    | none => rw [e1] at q2; exact q2.elim
    | some z1 =>
      cases e2 : zipQ e s2 with
      | none => rw [e1, e2] at q2; exact q2.elim
      | some z2 =>
        obtain ⟨c1, l1, r1⟩ := z1
        obtain ⟨c2, l2, r2⟩ := z2
        rw [e1, e2] at q2
        simp only at q2
        by_cases hc : c1 = c2
        · rw [if_pos hc] at q2
          subst hc
          obtain ⟨t, rfl, f⟩ := zipQ_ok R2 hv2 e1
          obtain ⟨t', rfl, g⟩ := zipQ_ok R2 hu e2
          have fin := q2 ρ2 H2 Step.refl R2
          cases c1 with
          | true =>
            obtain ⟨vs, i1, _⟩ : ∃ vs, SqT X.K H2 t vs ∧ VRs X.K κ ρ2 H2 l1 vs := by
              unfold zipQ at e1
              cases d with
              | tup m =>
                cases e1
                obtain ⟨t0, vs, e0, i2, i3⟩ := VR.tupE hv2
                cases e0
                exact ⟨vs, i2, i3⟩
              | loc n =>
                simp only at e1
                split at e1 <;> cases e1
              | _ => cases e1
            obtain ⟨us, j1, _⟩ : ∃ vs, SqT X.K H2 t' vs ∧ VRs X.K κ ρ2 H2 l2 vs := by
              unfold zipQ at e2
              cases e with
              | tup m =>
                cases e2
                obtain ⟨t0, vs, e0, i2, i3⟩ := VR.tupE hu
                cases e0
                exact ⟨vs, i2, i3⟩
              | loc n =>
                simp only at e2
                split at e2 <;> cases e2
              | _ => cases e2
            exact ⟨t, t', vs, us, rfl, .inr ⟨i1, j1, fin _ (it_zipT (fun ρ1 H1 s1 kp R st => f ρ1 H1 s1 kp R st) (fun ρ1 H1 s1 kp R st => g ρ1 H1 s1 kp R st))⟩⟩
          | false =>
            have st1 : Mit.stays r1 s2 := by
              unfold zipQ at e1
              cases d with
              | loc n =>
                simp only at e1
                split at e1
                · rename_i l q; cases e1; exact ⟨q, trivial⟩
                · cases e1
              | clst m => cases e1; trivial
              | _ => cases e1
            have st2 : Mit.stays r2 s2 := by
              unfold zipQ at e2
              cases e with
              | loc n =>
                simp only at e2
                split at e2
                · rename_i l q; cases e2; exact ⟨q, trivial⟩
                · cases e2
              | clst m => cases e2; trivial
              | _ => cases e2
            obtain ⟨vs, i1, _⟩ := f ρ2 H2 s2 Kp.refl R2 st1
            obtain ⟨us, j1, _⟩ := g ρ2 H2 s2 Kp.refl R2 st2
            exact ⟨t, t', vs, us, rfl, .inl ⟨i1, j1, fin _ (it_zip (fun ρ1 H1 s1 kp R st => f ρ1 H1 s1 kp R st) (fun ρ1 H1 s1 kp R st => g ρ1 H1 s1 kp R st))⟩⟩
        · rw [if_neg hc] at q2; exact q2.elim⟩⟩
theorem rgV_ok {K : PySem.W.Frag} {ρ : List Addr} {H : Hp} (i j : Int) : VRs K κ ρ H (rngI i (j - i).toNat) (rgV i j) := by
  unfold rngI rgV
  generalize List.range (j - i).toNat = l
  induction l with
  | nil => exact .nil
  | cons n r ih => exact .cons (by simp only [VR]) ih
theorem le_listRg {p2 pos2 : Pos} (hc : X.calm = true) (hg : Gl X "list") (hm : X.mg "list" = none) (hg2 : Gl X "range") (hm2 : X.mg "range" = none) (ha : LE X κ W a ma) (hb : LE X κ W b mb)
    (na : starEach [a, b] X.env = (false, eval a X.env) :: starEach [b] X.env := by rfl) (nb : starEach [b] X.env = (false, eval b X.env) :: starEach [] X.env := by rfl)
    (np : (backTo pos2 (starEach [b] X.env)).any (·.1) = false := by rfl) (nc : starEach [.Call (.Name "range" p2) [a, b] [] pos2] X.env = (false, eval (.Call (.Name "range" p2) [a, b] [] pos2) X.env) :: starEach [] X.env := by rfl) :
    LE X κ W (.Call (.Name "list" p) [.Call (.Name "range" p2) [a, b] [] pos2] [] pos) (bListRg ma mb) :=
  PE.by (pe_listRg hc hg hm (prg_2 hg2 hm2 ha hb na nb np) nc) fun σ H Q ⟨ρ, σd, s, R, hE, h⟩ => ⟨ρ, σd, s, R, hE, (Fin.bind h).mono fun d ρ1 s1 H1 x1 R1 q v hv => ⟨ρ1, σd, s1, R1, hE.later R x1, (Fin.bind q).mono fun e ρ2 s2 H2 x2 R2 q2 u hu => by
    cases d with
    | int i =>
      cases e with
      | int j =>
        simp only at q2
        by_cases hq : -(2 ^ 62) ≤ i ∧ i < 2 ^ 62 ∧ -(2 ^ 62) ≤ j ∧ j < 2 ^ 62 ∧ (j - i).toNat ≤ 2 ^ 24
        · rw [if_pos hq] at q2
          exact ⟨i, j, hv.int, hu.int, hq, fun p np => EndV.newL q2 R2 np (rgV_ok i j)⟩
        · rw [if_neg hq] at q2; exact q2.elim
      | _ => exact q2.elim
    | _ => cases e <;> exact q2.elim⟩⟩
theorem le_listRg1 {p2 pos2 : Pos} (hc : X.calm = true) (hg : Gl X "list") (hm : X.mg "list" = none) (hg2 : Gl X "range") (hm2 : X.mg "range" = none) (hb : LE X κ W b mb)
    (nb : starEach [b] X.env = (false, eval b X.env) :: starEach [] X.env := by rfl)
    (nc : starEach [.Call (.Name "range" p2) [b] [] pos2] X.env = (false, eval (.Call (.Name "range" p2) [b] [] pos2) X.env) :: starEach [] X.env := by rfl) :
    LE X κ W (.Call (.Name "list" p) [.Call (.Name "range" p2) [b] [] pos2] [] pos) (bListRg (mC (.int 0)) mb) :=
  PE.by (pe_listRg hc hg hm (prg_1 hg2 hm2 hb nb) nc) fun σ H Q ⟨ρ, σd, s, R, hE, h⟩ => ⟨ρ, σd, s, R, hE, (Fin.bind (r := mb σd s) h).mono fun e ρ2 s2 H2 x2 R2 q2 u hu => by
    cases e with
    | int j =>
      simp only at q2
      by_cases hq : -(2 ^ 62) ≤ (0 : Int) ∧ (0 : Int) < 2 ^ 62 ∧ -(2 ^ 62) ≤ j ∧ j < 2 ^ 62 ∧ (j - 0).toNat ≤ 2 ^ 24
      · rw [if_pos hq] at q2
        exact ⟨j, hu.int, hq, fun p np => EndV.newL q2 R2 np (rgV_ok 0 j)⟩
      · rw [if_neg hq] at q2; exact q2.elim
    | _ => exact q2.elim⟩
end
end Mid
/-! MidS: sorted(set(..)) of texts, of whole numbers. -/
namespace Mid
open PySem PySem.Spec L2
theorem metG_app {α : Type} [DecidableEq α] (l : List α) (x : α) : ∀ acc : List α, metG acc (l ++ [x]) = if x ∈ metG acc l then metG acc l else metG acc l ++ [x] := by
  induction l with
  | nil => intro acc; show (if x ∈ acc then acc else acc ++ [x]) = _; rfl
  | cons y r ih => intro acc; show (if y ∈ acc then metG acc (r ++ [x]) else metG (acc ++ [y]) (r ++ [x])) = (if x ∈ (if y ∈ acc then metG acc r else metG (acc ++ [y]) r) then (if y ∈ acc then metG acc r else metG (acc ++ [y]) r) else (if y ∈ acc then metG acc r else metG (acc ++ [y]) r) ++ [x]); by_cases h : y ∈ acc <;> simp only [h, if_true, if_false] <;> exact ih _
theorem metG_le {α : Type} [DecidableEq α] (l : List α) : ∀ acc : List α, (metG acc l).length ≤ acc.length + l.length := by
  induction l with
  | nil => intro acc; exact Nat.le_refl _
  | cons y r ih => intro acc; unfold metG; rw [List.length_cons]; split
                   · have := ih acc; omega
                   · have := ih (acc ++ [y]); rw [List.length_append, List.length_singleton] at this; omega
theorem metG_nd {α : Type} [DecidableEq α] (l : List α) : ∀ acc : List α, acc.Nodup → (metG acc l).Nodup := by
  induction l with
  | nil => intro acc h; exact h
  | cons y r ih => intro acc h; unfold metG; split
                   · exact ih _ h
                   · rename_i hy; exact ih _ (List.nodup_append.mpr ⟨h, by simp, fun a ha b hb e => by rw [List.mem_singleton] at hb; subst hb; subst e; exact hy ha⟩)
theorem metG_mem {α : Type} [DecidableEq α] {x : α} (l : List α) : ∀ acc : List α, x ∈ metG acc l ↔ x ∈ acc ∨ x ∈ l := by
  induction l with
  | nil => intro acc; simp [metG]
  | cons y r ih => intro acc; unfold metG; split
                   · rename_i h; rw [ih, List.mem_cons]; constructor
                     · rintro (a | a); exact .inl a; exact .inr (.inr a)
                     · rintro (a | rfl | a); exact .inl a; exact .inl h; exact .inr a
                   · rw [ih, List.mem_append, List.mem_singleton, List.mem_cons, or_assoc]
section
variable {P : Program} {w : World} {K : Type} [DecidableEq K] {knd : KeyKind P w K}
/-- the set at a holds the keys l, each once; its table can be walked -/
def KSet (knd : KeyKind P w K) (h : Heap) (a : Addr) (l : List K) : Prop := ∃ o es ep t, h.get? a = some o ∧ o.ExactSet ∧ o.data = .set es ep t ∧ ElemsOf knd es.toList ∧ (∀ k, k ∈ l ↔ ∃ e ∈ es.toList, knd.is k e.2 = true) ∧ es.size = l.length ∧ es.size < scanBound ∧ t.fits es.size = true ∧ Ris t.place.toList ∧ (w.params.followText "set-order" = true ∨ t.led = true)
theorem KSet.at {h h' : Heap} {a : Addr} {l : List K} (R : KSet knd h a l) (k : ∀ o, h.get? a = some o → h'.get? a = some o) : KSet knd h' a l := by
  obtain ⟨o, es, ep, t, ho, r⟩ := R; exact ⟨o, es, ep, t, k o ho, r⟩
variable {A : Around} {E : Value → Shared → Prop} {s : Shared} {a : Addr}
theorem ks_tail {g : Bool → Sem Unit} (hg : ∀ (b : Bool) (s₁ : Shared) (Q' : Unit → Shared → Prop), Q' () s₁ → wpAny (model P w) A (g b) Q' E s₁) {o : Obj} {es : Array (Int × Value)} {ep : Nat} {t : SetTable} (ho : s.heap.get? a = some o) (hex : o.ExactSet) (hd : o.data = .set es ep t) {es1 : Array (Int × Value)} {t2 : SetTable} {l' : List K} (g1 : ElemsOf knd es1.toList) (m1 : ∀ k, k ∈ l' ↔ ∃ e ∈ es1.toList, knd.is k e.2 = true) (n1 : es1.size = l'.length)
    (hb1 : es1.size < scanBound) (hf2 : t2.fits es1.size = true) (hr : Ris t2.place.toList) (hl : w.params.followText "set-order" = true ∨ t2.led = true) {wasDummy : Bool} {R : Option Bool → Shared → Prop} (hR : ∀ h', Heap.SameBut a s.heap h' → KSet knd h' a l' → R (some true) { s with heap := h' }) :
    wpAny (model P w) A (do
        storeSet a es1 t2
        if (!wasDummy && t2.tooFull) = true then do
            g (relayAll t2 es1 (SetTable.grown es1.size)).2.2
            storeSet a (relayAll t2 es1 (SetTable.grown es1.size)).1 (relayAll t2 es1 (SetTable.grown es1.size)).2.1
            pure (some true)
          else pure (some true)) R E s := by
  refine wpAny_bind (wpAny_storeSet_of ho hd ?_ (fits_of_scanBound hb1)); have ho1 := store_at (es' := es1) (t' := t2) ho hd; have sb1 := Heap.SameBut.update s.heap a (Obj.putSet es1 t2)
  split
  · have pm := relayAll_perm t2 es1 (SetTable.grown es1.size); have hf3 := relayAll_fits t2 es1 (SetTable.grown es1.size)
    have hr3 := relayAll_ris t2 es1 (SetTable.grown es1.size); have hl3 := relayAll_led t2 es1 (SetTable.grown es1.size)
    generalize relayAll t2 es1 (SetTable.grown es1.size) = Z at pm hf3 hr3 hl3 ⊢; obtain ⟨es2, t3, gave⟩ := Z; dsimp only at pm hf3 hr3 hl3 ⊢
    have hsz : es2.size = es1.size := by rw [← Array.length_toList, pm.length_eq, Array.length_toList]
    have hb2 : es2.size < scanBound := by rw [hsz]; exact hb1
    refine wpAny_bind (hg _ _ _ ?_); refine wpAny_bind (wpAny_storeSet_of ho1 rfl ?_ (fits_of_scanBound hb2)); have ho2 := store_at (es' := es2) (t' := t3) ho1 rfl
    refine wpAny_pure (hR _ (sb1.trans (Heap.SameBut.update _ a _)) ⟨_, es2, _, t3, ho2, hex, rfl, g1.perm pm, fun k => (m1 k).trans ⟨fun ⟨e, he, q⟩ => ⟨e, pm.mem_iff.mpr he, q⟩, fun ⟨e, he, q⟩ => ⟨e, pm.mem_iff.mp he, q⟩⟩, hsz.trans n1, hb2, by first | exact hf3 | (rw [hsz]; exact hf3), hr3, hl.imp id fun z => by rw [hl3]; exact z⟩)
  · exact wpAny_pure (hR _ sb1 ⟨_, es1, _, t2, ho1, hex, rfl, g1, m1, n1, hb1, hf2, hr, hl⟩)
theorem ks_add {k : K} {x : Value} {l : List K} {Q : Bool → Shared → Prop} (hkey : knd.is k x = true) (hsc : x.scannable = true) (R : KSet knd s.heap a l) (room : l.length + 1 < scanBound) (hQ : ∀ h' b, Heap.SameBut a s.heap h' → KSet knd h' a (if k ∈ l then l else l ++ [k]) → Q b { s with heap := h' }) : wpAny (model P w) A (setAddHashed a x (knd.hash k)) Q E s := by
  obtain ⟨o, es, ep, t, ho, hex, hd, g, hm, hn, hb, hf, hr, hl⟩ := R
  unfold setAddHashed setAddHashedIn; refine wpAny_holding (wpAny_bind (wpAny_setState_of ho hd hf ?_)); dsimp only
  rw [byScan_of hsc hb g]; simp only [↓reduceIte]; unfold setAddByScan
  refine wpAny_bind ?_; refine wpAny_bind (wpAny_rule ?_); refine wpAny_bind (wpAny_setScan_of hkey ho hd hf g ?_)
  cases hfi : List.findIdx? (fun e => knd.is k e.2) es.toList with
  | some j =>
    dsimp only; obtain ⟨hj, pj, _⟩ := List.findIdx?_eq_some_iff_getElem.mp hfi
    have hk : k ∈ l := (hm k).2 ⟨es.toList[j], List.getElem_mem hj, pj⟩
    exact wpAny_pure (wpAny_pure (hQ s.heap _ (Heap.SameBut.refl a s.heap) (by rw [if_pos hk]; exact ⟨o, es, ep, t, ho, hex, hd, g, hm, hn, hb, hf, hr, hl⟩)))
  | none =>
    dsimp only
    have hk : k ∉ l := fun z => by
      obtain ⟨e, he, q⟩ := (hm k).1 z; have c := List.findIdx?_eq_none_iff.mp hfi e he; rw [q] at c; cases c
    rw [if_neg hk] at hQ
    have hgw : ∀ (b : Bool) {s₁ : Shared} {Q' : Unit → Shared → Prop}, Q' () s₁ → wpAny (model P w) A (match b with | true => rule "set.scan.the-table-gave-way" | false => pure ()) Q' E s₁ := fun b s₁ Q' q => by cases b <;> first | exact wpAny_pure q | exact wpAny_rule q
    have pm := layNew_perm t es (knd.hash k) x; have hf1 := layNew_fits t es (knd.hash k) x; have hr1 := layNew_ris t es (knd.hash k) x hr; have hl1 := layNew_led t es (knd.hash k) x
    generalize layNew t es (knd.hash k) x = Z at pm hf1 hr1 hl1 ⊢; obtain ⟨es1, t1, wasDummy, gave⟩ := Z; dsimp only at pm hf1 hr1 hl1 ⊢
    rw [Array.toList_push] at pm
    have g1 : ElemsOf knd es1.toList := (g.push (k := k) (x := x) hkey hsc).perm pm
    have m1 : ∀ i, i ∈ l ++ [k] ↔ ∃ e ∈ es1.toList, knd.is i e.2 = true := fun i => by
      rw [List.mem_append, List.mem_singleton, hm i]
      constructor
      · rintro (⟨e, he, q⟩ | rfl)
        · exact ⟨e, pm.mem_iff.mpr (List.mem_append_left _ he), q⟩
        · exact ⟨(knd.hash i, x), pm.mem_iff.mpr (List.mem_append_right _ (by simp)), hkey⟩
      · rintro ⟨e, he, q⟩
        rcases List.mem_append.mp (pm.mem_iff.mp he) with he | he
        · exact .inl ⟨e, he, q⟩
        · rw [List.mem_singleton] at he; subst he; exact .inr (knd.inj x i k q hkey)
    have hsz : es1.size = (l ++ [k]).length := by rw [← Array.length_toList, pm.length_eq, List.length_append, Array.length_toList, List.length_append, hn]; rfl
    have hb1 : es1.size < scanBound := by rw [hsz, List.length_append]; exact room
    have hled : w.params.followText "set-order" = true ∨ t1.led = true := hl.imp id fun z => by rw [hl1]; exact z
    refine wpAny_bind (hgw _ ?_)
    split
    · refine wpAny_bind ?_; rw [hashByValue_scannable 8 hsc]; refine wpAny_pure ?_; refine ks_tail ?_ ho hex hd g1 m1 hsz hb1 ?_ ?_ ?_ ?_
      · intro b s₁ Q' q; cases b <;> first | exact wpAny_pure q | exact wpAny_rule q
      · first | (split <;> first | exact hf1 | exact SetTable.fits_plain_off hf1) | exact hf1
      · first | (split <;> exact hr1) | exact hr1
      · first | (split <;> exact hled) | exact hled
      · intro h' sb r; dsimp only; exact wpAny_pure (hQ h' _ sb r)
    · refine wpAny_bind (wpAny_pure ?_); simp only [↓reduceIte]; refine ks_tail ?_ ho hex hd g1 m1 hsz hb1 hf1 hr1 hled ?_
      · intro b s₁ Q' q; cases b <;> first | exact wpAny_pure q | exact wpAny_rule q
      · intro h' sb r; dsimp only; exact wpAny_pure (hQ h' _ sb r)
end
/-! ### set(xs) -/
section
variable {P : Program} {w : World} {K : Type} [DecidableEq K] {knd : KeyKind P w K} {A : Around} {R : Result → Shared → Prop} {I : Addr} {fp wr : List Addr} {G : Array GenState → Array GenState → Prop} {n : Nat} {Pv : Nat → Value → Prop} {St : Nat → Shared → Prop}
theorem ks_loop (W : WalksS P w A.in1 I fp wr G n Pv St) (S : Addr) (hSf : S ∉ fp) (xs : List K) (hx : xs.length = n) (hval : ∀ (i : Nat) (v : Value), Pv i v → ∃ k : K, xs[i]? = some k ∧ knd.is k v = true ∧ v.scannable = true) (hb : n + 1 < scanBound) :
    ∀ (k i : Nat) (s : Shared), n - i = k → i ≤ n → St i s → KSet knd s.heap S (metG [] (xs.take i)) → (∀ s', Moved (S :: wr) G s s' → KSet knd s'.heap S (metG [] (xs.take n)) → R (.ok (.ret .none)) s') → codeAny (model P w) A (.builtin "set.update.loop" ⟨[.ref S, .ref I], []⟩) R s := by
  have hSw : S ∉ wr := fun h => hSf (W.sub _ h)
  have hsub : ∀ b ∈ wr, b ∈ S :: wr := fun b hb => List.mem_cons_of_mem _ hb
  intro k; induction k with
  | zero =>
    intro i s hk hi hst hS hR; obtain rfl : i = n := by omega
    refine codeAny_builtin PyProof.Rows.F.entry_set_update_loop ?_; rw [Around.under_plainId PyProof.Rows.F.plain_set_update_loop _]
    show wpAny _ A.in1 (pyNext (.ref I) >>= _) _ _ s; refine wpAny_bind (W.done s _ _ hst fun s' hm => ?_)
    show wpAny _ A.in1 (ret Value.none) _ _ s'; exact wpAny_pure (hR s' (hm.mono hsub) (hS.at fun o e => hm.heap S _ hSw e))
  | succ k ih =>
    intro i s hk hi hst hS hR; have hlt : i < n := by omega
    refine codeAny_builtin PyProof.Rows.F.entry_set_update_loop ?_; rw [Around.under_plainId PyProof.Rows.F.plain_set_update_loop _]
    show wpAny _ A.in1 (pyNext (.ref I) >>= _) _ _ s; refine wpAny_bind (W.item i s _ _ hlt hst fun v s' hP hst' hm => ?_)
    obtain ⟨y, hy, his, hsc⟩ := hval i v hP
    have hS' : KSet knd s'.heap S (metG [] (xs.take i)) := hS.at fun o e => hm.heap S _ hSw e
    show wpAny _ A.in1 (holding [v] (setAdd S v) >>= _) _ _ s'
    refine wpAny_bind (wpAny_holding ?_); unfold setAdd; refine wpAny_holding ?_; refine wpAny_bind (knd.pyHash (k := y) his ?_)
    have hroom : (metG [] (xs.take i)).length + 1 < scanBound := by have := metG_le (xs.take i) []; rw [List.length_nil, List.length_take] at this; omega
    refine ks_add (s := { s' with toks := s'.toks + 1 }) his hsc hS' hroom fun h' b hsb hS2 => ?_
    have hSi : KSet knd h' S (metG [] (xs.take (i + 1))) := by
      rw [List.take_add_one, hy]; show KSet knd h' S (metG [] (xs.take i ++ [y])); rw [metG_app]; exact hS2
    refine wpAny_pure ⟨plainId_quiet PyProof.Rows.F.plain_set_update_loop _, ih (i + 1) _ (by omega) hlt (W.frame _ s' _ _ hst' (Nat.le_succ _) fun b hb o e => ?_) hSi fun s'' hm'' hS'' => ?_⟩
    · rw [hsb.2 b (fun h : b = S => hSf (by rw [← h]; exact hb))]; exact e
    · refine hR s'' (Moved.trans W.gtrans ((hm.mono hsub).then_heap (Nat.le_succ _) fun b o hb e => ?_) hm'') hS''; rw [hsb.2 b (fun h : b = S => hb (by rw [h]; exact List.mem_cons_self))]; exact e
end
section
variable {P : Program} {w : World} {A : Around} {E : Value → Shared → Prop} {s : Shared}
theorem ks_code (x : Value) {Q₁ : Value → Shared → Prop} (h : Q₁ (.ref s.heap.objs.size) { s with heap := s.heap.push { cls := .type "set", dict := none, data := .set #[] 0 (.fresh 0 0 (!w.params.followText "set-order")) } }) : codeAny (model P w) A (.call (.builtin "set.__new__") ⟨[.type "set", x], []⟩) (wants Q₁ E) s := by
  refine codeAny_of_tree ?_; show wpAny _ A.in1 (do checkBuiltinCall "set.__new__" ⟨[.type "set", x], []⟩; again (.builtin "set.__new__" ⟨[.type "set", x], []⟩)) _ _ s
  refine wpAny_bind (wpAny_of_eq (PySem.F.newCall_set_1 x) (wpAny_pure ⟨plainId_quiet F.plain_set_new _, codeAny_builtin F.entry_set_new ?_⟩)); rw [Around.under_plainId F.plain_set_new _]
  unfold Builtin.«set.__new__» Builtin.Frozenset.newClass; have hsub := sub_set_self; obtain ⟨hp, g, d, tk, os⟩ := s
  dsimp only; wp_walk; refine wpAny_askSetting (wpAny_pure ?_); dsimp only; simp only [newObj]; refine wpAny_bind (wpAny_alloc (wpAny_pure ?_)); exact wpAny_pure h
theorem ks_fresh {K : Type} [DecidableEq K] {knd : KeyKind P w K} {h : Heap} : KSet knd (h.push { cls := .type "set", dict := none, data := .set #[] 0 (.fresh 0 0 (!w.params.followText "set-order")) }) h.objs.size [] :=
  ⟨_, #[], 0, _, Heap.get?_push_size _ rfl, ⟨rfl, rfl, rfl⟩, rfl, (fun e he => by simp at he), (fun k => by simp), rfl, (by decide), (by rfl), List.Pairwise.nil, by
    show _ ∨ (!w.params.followText "set-order") = true; cases w.params.followText "set-order"
    · exact .inr rfl
    · exact .inl rfl⟩
set_option maxHeartbeats 3200000 in
theorem ks_call {K : Type} [DecidableEq K] {knd : KeyKind P w K} {l : Addr} {items : Array Value} {xs : List K} {Q : Value → Shared → Prop} (hh : A.handled = none) (hl : s.heap.IsList l items) (hx : xs.length = items.size) (hi : ∀ (i : Nat) (v : Value), items[i]? = some v → ∃ k : K, xs[i]? = some k ∧ knd.is k v = true ∧ v.scannable = true) (hb : items.size + 1 < scanBound)
    (h : ∀ (h' : Heap) (tk : Nat), KSet knd h' s.heap.objs.size (metG [] xs) → (∀ b o, b < s.heap.objs.size → s.heap.get? b = some o → h'.get? b = some o) → Q (.ref s.heap.objs.size) { s with heap := h', toks := tk }) : wpAny (model P w) A (call (.type "set") [.ref l]) Q E s := by
  obtain ⟨c, tl, hmro⟩ := PySem.F.called_set.mro; have hmade := PySem.F.called_set.made; have hsub := PySem.F.called_set.sub
  refine wpAny_call (codeAny_of_tree ?_); show wpAny _ _ (callAny (.type "set") _) _ _ _
  refine wpAny_pure ⟨Code.quiet_builtin _ (by decide +kernel), codeAny_builtin PySem.F.entry_type_call ?_⟩; rw [Around.under_plain (weight_type_call_type "set" [.ref l] []) rfl]
  have h1 := PySem.F.called_set.notType; have h2 := PySem.F.called_set.canCreate; have hct := PySem.F.typeCall_set_1 (.ref l)
  repeat (any_goals (first | assumption | wp_step))
  refine codeAny_mono (ks_code (.ref l) (E := E) (Q₁ := fun obj s₁ => obj = .ref s.heap.objs.size ∧ s₁ = { s with heap := s.heap.push { cls := .type "set", dict := none, data := .set #[] 0 (.fresh 0 0 (!w.params.followText "set-order")) } }) ⟨rfl, rfl⟩) fun r s₁ hr => ?_
  cases r with
  | error e => exact hr
  | ok fl =>
    cases fl with
    | ret obj =>
      obtain ⟨rfl, rfl⟩ := hr; have hF := ks_fresh (knd := knd) (h := s.heap)
      generalize hled : (!w.params.followText "set-order") = led at hF ⊢
      have hS : (s.heap.push { cls := .type "set", dict := none, data := .set #[] 0 (.fresh 0 0 led) }).get? s.heap.objs.size = some { cls := .type "set", dict := none, data := .set #[] 0 (.fresh 0 0 led) } := Heap.get?_push_size _ rfl
      have hT : Shared.TypeIs { s with heap := s.heap.push { cls := .type "set", dict := none, data := .set #[] 0 (.fresh 0 0 led) } } (.ref s.heap.objs.size) "set" := ⟨_, hS, rfl⟩
      have hli := PySem.F.called_set.init.lookup; have hbi := PySem.F.called_set.init.bind (.ref s.heap.objs.size)
      repeat (any_goals (first | assumption | wp_step))
      refine codeAny_mono (codeAny_call_builtin (R := wants (fun r s₂ => r = .none ∧ ∃ h' tk, s₂ = { s with heap := h', toks := tk } ∧ KSet knd h' s.heap.objs.size (metG [] xs) ∧ (∀ b o, b < s.heap.objs.size → s.heap.get? b = some o → h'.get? b = some o)) E) PySem.F.called_set.init.plain PySem.F.entry_set_init (check_set_init_1 hT ?_)) fun r₂ s₂ hr₂ => ?_
      · obtain ⟨ol, hol, hcl, nl, hdl⟩ := hl; obtain ⟨ocls, odict, odata, oslots⟩ := ol; simp only at hcl hdl; subst hcl; subst hdl
        have hol' : (s.heap.push { cls := .type "set", dict := none, data := .set #[] 0 (.fresh 0 0 led) }).get? l = some { cls := .type "list", dict := odict, data := .seq items nl, slots := oslots } := Heap.get?_push_of_some _ hol
        have hsls := PySem.F.sub_list_set; have hslf := PySem.F.sub_list_frozenset; have hne : (Value.type "list" == Value.type "dict") = false := by decide
        have hl1 : (s.heap.push { cls := .type "set", dict := none, data := .set #[] 0 (.fresh 0 0 led) }).IsList l items := ⟨_, hol', rfl, nl, rfl⟩
        unfold Builtin.«set.__init__» noKeywords Builtin.Frozenset.updateFrom; generalize hPI : pyIter = PI; wp_walk; subst hPI
        refine wpAny_pyIter_list hl1 ?_; refine wpAny_bind (wpAny_runValue ?_)
        have hlS : l < s.heap.objs.size := Heap.lt_size hol; have hh3 : A.in1.in1.in1.handled = none := by simp [hh]
        have hneI : l ≠ (s.heap.push { cls := .type "set", dict := none, data := .set #[] 0 (.fresh 0 0 led) }).objs.size := by rw [Heap.size_push]; exact Nat.ne_of_lt (Nat.lt_succ_of_lt hlS)
        have hSf : s.heap.objs.size ∉ [(s.heap.push { cls := .type "set", dict := none, data := .set #[] 0 (.fresh 0 0 led) }).objs.size, l] := by
          rw [Heap.size_push]; simp only [List.mem_cons, List.mem_singleton, List.not_mem_nil, or_false, not_or]; exact ⟨Nat.ne_of_lt (Nat.lt_succ_self _), Nat.ne_of_gt hlS⟩
        refine ks_loop (knd := knd) ((Walks.list hh3 _ l hneI items).toS) s.heap.objs.size hSf xs hx hi hb (items.size - 0) 0 _ (by omega) (Nat.zero_le _) ⟨⟨_, Heap.get?_push_size _ rfl, rfl, rfl⟩, (hl1.push _)⟩ (hF.at fun o e => Heap.get?_push_of_some _ e) ?hR
        case hR =>
          intro s' hm hS'; obtain ⟨h', g', d', tk', os'⟩ := s'
          have eg : g' = s.gens := hm.gens; have ed : d' = s.drawn := hm.drawn; have eo : os' = s.os := hm.os; subst eg; subst ed; subst eo
          rw [← hx, List.take_length] at hS'
          show wpAny _ _ _ _ _ _; refine wpAny_pure ?_; show wpAny _ _ (ret Value.none) _ _ _
          refine wpAny_pure ⟨rfl, h', tk', rfl, hS', fun b o hb e => ?_⟩
          have hb1 : b ≠ s.heap.objs.size := Nat.ne_of_lt hb
          have hb2 : b ≠ (s.heap.push { cls := .type "set", dict := none, data := .set #[] 0 (.fresh 0 0 led) }).objs.size := by rw [Heap.size_push]; exact Nat.ne_of_lt (Nat.lt_succ_of_lt hb)
          exact hm.heap b o (by simp only [List.mem_cons, List.mem_singleton, List.not_mem_nil, or_false, not_or]; exact ⟨hb1, hb2⟩) (Heap.get?_push_of_some _ (Heap.get?_push_of_some _ e))
      · cases r₂ with
        | error e => exact hr₂
        | ok fl₂ =>
          cases fl₂ with
          | ret r => obtain ⟨rfl, h', tk, rfl, hS', hk'⟩ := hr₂; repeat (any_goals (first | assumption | wp_step))
                     exact h _ _ hS' hk'
          | _ => exact hr₂.elim
    | _ => exact hr.elim
end
/-! ### sorted(set(xs)) -/
theorem perm_cover {α : Type} [DecidableEq α] : ∀ {l m : List α}, l.Nodup → (∀ x ∈ l, x ∈ m) → m.length ≤ l.length → m.Perm l
  | [], m, _, _, h => by rw [List.length_nil, Nat.le_zero, List.length_eq_zero_iff] at h; rw [h]
  | x :: r, m, nd, hs, h => by
    have hx := hs x List.mem_cons_self; obtain ⟨n1, n2⟩ := List.nodup_cons.mp nd
    refine (List.perm_cons_erase hx).trans (List.Perm.cons x (perm_cover n2 (fun y hy => (List.mem_erase_of_ne fun e => n1 (by rw [← e]; exact hy)).mpr (hs y (List.mem_cons_of_mem _ hy))) ?_))
    rw [List.length_erase_of_mem hx]; rw [List.length_cons] at h; omega
def txtOf : Value → Str
  | .str k _ => k
  | _ => Str.empty
def numOf : Value → Int
  | .int k _ => k
  | _ => 0
theorem strs_txt : ∀ l : List Value, (∀ v ∈ l, ∃ k tk, v = Value.str k tk) → PyProof.Rows.StrsAre l (l.map txtOf)
  | [], _ => .nil
  | v :: l, h => by obtain ⟨k, tk, rfl⟩ := h v List.mem_cons_self; exact .cons k tk (strs_txt l fun u hu => h u (List.mem_cons_of_mem _ hu))
theorem ints_num : ∀ l : List Value, (∀ v ∈ l, ∃ k tk, v = Value.int k tk) → PyProof.Rows.IntsAre l (l.map numOf)
  | [], _ => .nil
  | v :: l, h => by obtain ⟨k, tk, rfl⟩ := h v List.mem_cons_self; exact .cons k tk (ints_num l fun u hu => h u (List.mem_cons_of_mem _ hu))
section
variable {P : Program} {w : World} {A : Around} {E : Value → Shared → Prop} {s : Shared} {a : Addr}
theorem ks_perm {K : Type} [DecidableEq K] {knd : KeyKind P w K} {l : List K} {kf : Value → K} {es : Array (Int × Value)} {vs : List Value} (g : ElemsOf knd es.toList) (hm : ∀ k, k ∈ l ↔ ∃ e ∈ es.toList, knd.is k e.2 = true) (hn : es.size = l.length) (nd : l.Nodup) (hk : ∀ k v, knd.is k v = true → kf v = k) (pm : vs.Perm (es.toList.map (·.2))) : (vs.map kf).Perm l ∧ (∀ v ∈ vs, ∃ k, knd.is k v = true) ∧ vs.length = l.length := by
  have hl : vs.length = l.length := by rw [pm.length_eq, List.length_map, Array.length_toList]; exact hn
  refine ⟨perm_cover nd (fun x hx => ?_) (by rw [List.length_map, hl]; exact Nat.le_refl _), fun v hv => ?_, hl⟩
  · obtain ⟨e, he, q⟩ := (hm x).1 hx
    exact List.mem_map.mpr ⟨e.2, pm.mem_iff.mpr (List.mem_map.mpr ⟨e, he, rfl⟩), hk x e.2 q⟩
  · obtain ⟨e, he, q⟩ := List.mem_map.mp (pm.mem_iff.mp hv)
    obtain ⟨⟨k, h1, _⟩, _⟩ := g e he
    exact ⟨k, by rw [← q]; exact h1⟩
theorem ks_sortS {l : List Str} {Q : Value → Shared → Prop} (R : KSet (PySem.strKind P w) s.heap a l) (nd : l.Nodup) (hh : A.handled = none) (h64 : l.length < 64)
    (hQ : ∀ s' p (out : Array Value) (c : Nat) (ys : List Str), (∀ b o, s.heap.get? b = some o → s'.heap.get? b = some o) → s'.gens = s.gens → s'.os = s.os → s.heap.objs.size ≤ p → s'.heap.get? p = some (PyProof.Rows.seqObj "list" out c) → PyProof.Rows.StrsAre out.toList ys → ys.Perm l → PyProof.Rows.sortedS ys = true → Q (.ref p) s') : wpAny (model P w) A (call (.builtin "sorted") [.ref a]) Q E s := by
  obtain ⟨o, es, ep, t, ho, hex, hd, g, hm, hn, hb, hf, hr, hl⟩ := R
  refine Calls.call_function_entry PyProof.Rows.kind_sorted PyProof.Rows.plain_sorted PyProof.Rows.entry_sorted (PyProof.Rows.args_sorted1 _) ?_
  unfold Builtin.«sorted»; refine wpAny_bind (m := checkCount "sorted" 1 1 _) (wpAny_pure (wpAny_bind ?_))
  refine collect_set (A := A.in1) hh ⟨o, ho, hex.1, hd⟩ hf hb hr hl fun s1 vs k1 hz g1 o1 pm => ?_
  obtain ⟨p1, p2, p3⟩ := ks_perm (kf := txtOf) g hm hn nd (fun k v h => by obtain ⟨t, rfl⟩ := Value.isStrOf_shape (x := k) (v := v) h; rfl) pm
  have hS := strs_txt vs fun v hv => by obtain ⟨k, h⟩ := p2 v hv; obtain ⟨t, rfl⟩ := Value.isStrOf_shape (x := k) (v := v) h; exact ⟨k, t, rfl⟩
  refine wpAny_bind (wpAny_newList ?_ (by rw [p3, sizeLine_eq]; omega))
  have hoL : (s1.heap.push (PyProof.Rows.seqObj "list" vs.toArray 0)).get? s1.heap.objs.size = some (PyProof.Rows.seqObj "list" vs.toArray 0) := Heap.get?_push_size _ rfl
  refine wpAny_bind (wpAny_holding (wpAny_call_entry PyProof.Rows.slot_list_sort ⟨_, hoL, rfl⟩ PyProof.Rows.entry_list_sort (PyProof.Rows.list_sort_treeK PyProof.Rows.strKind_oneLt hoL hS.keysOf (fun v₁ v₂ rest e => PyProof.Rows.keyKind_strs (by rw [← e]; exact hS)) (by rw [p3]; exact h64) fun st' hp hs => ⟨_, rfl, ?_⟩) (PyProof.Rows.args_list_sort _)))
  obtain ⟨ys, q1, q2, q3⟩ := PyProof.Rows.sorted_out_str hS hp hs; obtain ⟨c, hc⟩ := PyProof.Rows.sortedHeap_at (vs := vs) (out := (PyProof.Rows.arrOf st').map (·.2)) hoL
  refine wpAny_pure ⟨_, rfl, hQ _ s1.heap.objs.size _ c ys (fun b u e => ?_) g1 o1 hz hc q1 (q2.trans p1) q3⟩
  have q := k1 b u e; have hlt := Heap.lt_size q
  show (PyProof.Rows.sortedHeap (s1.heap.push (PyProof.Rows.seqObj "list" vs.toArray 0)) s1.heap.objs.size vs _).get? b = some u
  rw [PyProof.Rows.sortedHeap_old (Nat.ne_of_lt hlt) (by show b < (s1.heap.push _).objs.size; rw [Heap.size_push]; exact Nat.lt_succ_of_lt hlt)]; exact Heap.get?_push_of_some _ q
theorem ks_sortI {l : List Int} {Q : Value → Shared → Prop} (R : KSet (intKind P w) s.heap a l) (nd : l.Nodup) (hh : A.handled = none)
    (hQ : ∀ s' p (out : Array Value) (c : Nat) (ys : List Int), (∀ b o, s.heap.get? b = some o → s'.heap.get? b = some o) → s'.gens = s.gens → s'.os = s.os → s.heap.objs.size ≤ p → s'.heap.get? p = some (PyProof.Rows.seqObj "list" out c) → PyProof.Rows.IntsAre out.toList ys → ys.Perm l → ys.Pairwise (· ≤ ·) → Q (.ref p) s') : wpAny (model P w) A (call (.builtin "sorted") [.ref a]) Q E s := by
  obtain ⟨o, es, ep, t, ho, hex, hd, g, hm, hn, hb, hf, hr, hl⟩ := R
  refine Calls.call_function_entry PyProof.Rows.kind_sorted PyProof.Rows.plain_sorted PyProof.Rows.entry_sorted (PyProof.Rows.args_sorted1 _) ?_
  unfold Builtin.«sorted»; refine wpAny_bind (m := checkCount "sorted" 1 1 _) (wpAny_pure (wpAny_bind ?_))
  refine collect_set (A := A.in1) hh ⟨o, ho, hex.1, hd⟩ hf hb hr hl fun s1 vs k1 hz g1 o1 pm => ?_
  have ish : ∀ k v, (intKind P w).is k v = true → ∃ t, v = .int k t := fun k v h => Value.isInt_shape (k := k) (v := v) h
  obtain ⟨p1, p2, p3⟩ := ks_perm (kf := numOf) g hm hn nd (fun k v h => by obtain ⟨t, rfl⟩ := ish k v h; rfl) pm
  have hS := ints_num vs fun v hv => by obtain ⟨k, h⟩ := p2 v hv; obtain ⟨t, rfl⟩ := ish k v h; exact ⟨k, t, rfl⟩
  have big : vs.length ≤ sizeLine := by rw [p3, ← hn]; exact fits_of_scanBound hb
  refine wpAny_bind (wpAny_newList ?_ big)
  have hoL : (s1.heap.push (PyProof.Rows.seqObj "list" vs.toArray 0)).get? s1.heap.objs.size = some (PyProof.Rows.seqObj "list" vs.toArray 0) := Heap.get?_push_size _ rfl
  refine wpAny_bind (wpAny_holding (wpAny_call_entry PyProof.Rows.slot_list_sort ⟨_, hoL, rfl⟩ PyProof.Rows.entry_list_sort (SrtO.list_sort_ord (s := { s1 with heap := s1.heap.push (PyProof.Rows.seqObj "list" vs.toArray 0) }) SrtO.swo_int hoL big (fun h2 => SrtO.ints_sortable hS h2) fun out h1 h2 => ⟨_, rfl, ?_⟩) (PyProof.Rows.args_list_sort _)))
  obtain ⟨q1, q2, q3⟩ := SrtO.ints_out hS h1 h2; obtain ⟨c, hc⟩ := PyProof.Rows.sortedHeap_at (vs := vs) (out := out.toArray) hoL
  refine wpAny_pure ⟨_, rfl, hQ _ s1.heap.objs.size out.toArray c _ (fun b u e => ?_) g1 o1 hz hc (by simpa using q1) (q2.trans p1) q3⟩
  have q := k1 b u e; have hlt := Heap.lt_size q
  show (PyProof.Rows.sortedHeap (s1.heap.push (PyProof.Rows.seqObj "list" vs.toArray 0)) s1.heap.objs.size vs _).get? b = some u
  rw [PyProof.Rows.sortedHeap_old (Nat.ne_of_lt hlt) (by show b < (s1.heap.push _).objs.size; rw [Heap.size_push]; exact Nat.lt_succ_of_lt hlt)]; exact Heap.get?_push_of_some _ q
end
section
variable {X : Cx} {κ : Kap} {W : WX}
theorem vals_back {xs : List V} {us : List Value} (r : Vals xs us) {i : Nat} {v : Value} (h : us[i]? = some v) : ∃ x, xs[i]? = some x ∧ RelV x v := by
  have hl : i < xs.length := by rw [r.length]; exact (List.getElem?_eq_some_iff.mp h).1
  obtain ⟨u, h1, h2⟩ := r.get (i := i) (x := xs[i]) (List.getElem?_eq_getElem hl)
  rw [h] at h1; cases h1
  exact ⟨_, List.getElem?_eq_getElem hl, h2⟩
def tSortSet (K : PySem.W.Frag) (ta : TE) : TE := fun σ H Q => ta σ H fun x H1 => ∃ l : Addr, x = .ref l ∧ ((∃ ns : List Int, SqL K H1 l (ns.map V.int) ∧ ns.length < 4000 ∧ ∀ p, H1 p = none → Q (.ref p) (upd H1 p (.lst ((srtI (metG [] ns)).map V.int)))) ∨ (∃ xs : List Str, SqL K H1 l (xs.map V.str) ∧ xs.length < 64 ∧ ∀ p, H1 p = none → Q (.ref p) (upd H1 p (.lst ((srtS (metG [] xs)).map V.str)))))
theorem pe_sortSet {a : Expr} {ta : TE} {p p2 q pos : Pos} (hc : X.calm = true) (hg : Gl X "sorted") (hm : X.mg "sorted" = none) (hg2 : Gl X "set") (hm2 : X.mg "set" = none) (ha : PE X a ta) (na : starEach [a] X.env = (false, eval a X.env) :: starEach [] X.env) :
    PE X (.Call (.Name "sorted" p) [.Call (.Name "set" p2) [a] [] q] [] pos) (tSortSet X.K ta) := by
  refine ⟨fun pins s σ H Q I h => PyProof.Rows.Call_ (ld_blt I hg hm PyProof.Rows.boot_sorted (PyProof.Rows.callWith_builtin1 (PyProof.Rows.args_cons (PyProof.Rows.Call_ (ld_blt I hg2 hm2 PyProof.Rows.boot_set ?_)) rfl) rfl rfl))⟩
  refine PyProof.Rows.callWith_type1 (PyProof.Rows.args_cons (thn (ha.run pins s σ H _ I h) fun v s1 ⟨x, H1, I1, r1, q1⟩ => PyProof.Rows.args_nil ?_) na) na rfl
  obtain ⟨l, rfl, q1⟩ := q1; cases r1
  rcases q1 with ⟨ns, hq, hlt, q1⟩ | ⟨xs, hq, hlt, q1⟩
  · obtain ⟨its, r, pl, hz⟩ := I1.list hq
    have hlen : its.toArray.size = ns.length := by rw [List.size_toArray, ← r.length, List.length_map]
    refine ks_call (knd := intKind X.prog X.w) (xs := ns) (I1.ok.hd hc) pl.isList hlen.symm (fun i v hv => ?_) (by rw [hlen]; unfold scanBound; omega) fun h' tk hS hk => PyProof.Rows.args_nil ?_
    · obtain ⟨x, hx, rx⟩ := vals_back r (i := i) (v := v) (by simpa using hv)
      rw [List.getElem?_map] at hx
      cases e : ns[i]? with
      | none => rw [e] at hx; cases hx
      | some k => rw [e] at hx; obtain rfl : V.int k = x := Option.some.inj hx; obtain ⟨t, rfl⟩ := rx; exact ⟨k, rfl, intKind_is _ _ _ _, rfl⟩
    have I2 : Inv X pins σ H1 { s1 with heap := h', toks := tk } := I1.kept fun b o e => hk b o (Heap.lt_size e) e
    have nd := metG_nd ns [] List.nodup_nil
    have le0 := metG_le ns []
    refine ks_sortI (s := { s1 with heap := h', toks := tk }) hS nd (I1.ok.hd hc) fun s' p out c ys k g o hp hg hi hpm hs => ?_
    have hn : H1 p = none := I2.hok.fresh hp
    obtain rfl := srtI_one hpm hs
    have hlen : ((srtI (metG [] ns)).map V.int).length ≤ sizeLine := by rw [List.length_map, hpm.length_eq, sizeLine_eq]; rw [List.length_nil] at le0; omega
    exact ⟨.ref p, _, I2.call' (s' := s') (ch := []) o (Un.laid k hp hn) (I2.hok.laid k hp (show ObjOk X.prog X.w _ _ _ (.lst ((srtI (metG [] ns)).map V.int)) from ⟨hlen, out.toList, c, vals_of_ints hi, by rw [Array.toArray_toList]; exact hg⟩)) (by rw [g]; exact I2.bare) (fun _ z => nomatch z), rfl, q1 p hn⟩
  · obtain ⟨its, r, pl, hz⟩ := I1.list hq
    have hlen : its.toArray.size = xs.length := by rw [List.size_toArray, ← r.length, List.length_map]
    refine ks_call (knd := PySem.strKind X.prog X.w) (xs := xs) (I1.ok.hd hc) pl.isList hlen.symm (fun i v hv => ?_) (by rw [hlen]; unfold scanBound; omega) fun h' tk hS hk => PyProof.Rows.args_nil ?_
    · obtain ⟨x, hx, rx⟩ := vals_back r (i := i) (v := v) (by simpa using hv)
      rw [List.getElem?_map] at hx
      cases e : xs[i]? with
      | none => rw [e] at hx; cases hx
      | some k => rw [e] at hx; obtain rfl : V.str k = x := Option.some.inj hx; obtain ⟨t, rfl⟩ := rx; exact ⟨k, rfl, strKind_is _ _ _ _, rfl⟩
    have I2 : Inv X pins σ H1 { s1 with heap := h', toks := tk } := I1.kept fun b o e => hk b o (Heap.lt_size e) e
    have nd := metG_nd xs [] List.nodup_nil
    have le0 := metG_le xs []
    rw [List.length_nil] at le0
    refine ks_sortS (s := { s1 with heap := h', toks := tk }) hS nd (I1.ok.hd hc) (by omega) fun s' p out c ys k g o hp hg hi hpm hs => ?_
    have hn : H1 p = none := I2.hok.fresh hp
    obtain rfl := srtS_one hpm hs
    have hlen : ((srtS (metG [] xs)).map V.str).length ≤ sizeLine := by rw [List.length_map, hpm.length_eq, sizeLine_eq]; omega
    exact ⟨.ref p, _, I2.call' (s' := s') (ch := []) o (Un.laid k hp hn) (I2.hok.laid k hp (show ObjOk X.prog X.w _ _ _ (.lst ((srtS (metG [] xs)).map V.str)) from ⟨hlen, out.toList, c, vals_of_strs hi, by rw [Array.toArray_toList]; exact hg⟩)) (by rw [g]; exact I2.bare) (fun _ z => nomatch z), rfl, q1 p hn⟩
theorem le_sortSet {a : Expr} {ma : ME} {p p2 q pos : Pos} (hc : X.calm = true) (hg : Gl X "sorted") (hm : X.mg "sorted" = none) (hg2 : Gl X "set") (hm2 : X.mg "set" = none) (ha : LE X κ W a ma) (na : starEach [a] X.env = (false, eval a X.env) :: starEach [] X.env := by rfl) :
    LE X κ W (.Call (.Name "sorted" p) [.Call (.Name "set" p2) [a] [] q] [] pos) (mCall bSortSet [ma]) :=
  PE.by (pe_sortSet hc hg hm hg2 hm2 ha na) fun σ H Q ⟨ρ, σd, s, R, hE, h⟩ => ⟨ρ, σd, s, R, hE, (Fin.bind (f := fun d s => bSortSet [d] s) (by
      have h' := h
      unfold mCall mArgs mArgs at h'
      cases e : ma σd s with
      | ok d s1 => rw [e] at h'; exact h'
      | er z s1 => rw [e] at h'; exact h'
      | bad => rw [e] at h'; exact h')).mono fun d ρ1 s1 H1 x1 R1 q v hv => by
    unfold bSortSet f1 at q
    simp only at q
    cases e : bAny.lstQ d s1 with
    | none => rw [e] at q; exact q.elim
    | some l =>
      rw [e] at q
      simp only at q
      obtain ⟨p, vs, rfl, h1, h2⟩ := R1.lstE hv e
      cases e2 : intsQ l with
      | some ns =>
        rw [e2] at q
        simp only at q
        by_cases hl : ns.length < 4000
        · rw [if_pos hl] at q
          obtain ⟨rfl, _⟩ := intsQ_ok h2 e2
          exact ⟨p, rfl, .inl ⟨ns, h1, hl, fun p np => EndV.newL q R1 np (VRs.ints _)⟩⟩
        · rw [if_neg hl] at q; exact q.elim
      | none =>
        rw [e2] at q
        simp only at q
        cases e3 : strsQ l with
        | none => rw [e3] at q; exact q.elim
        | some xs =>
          rw [e3] at q
          simp only at q
          by_cases hl : xs.length < 64
          · rw [if_pos hl] at q
            obtain ⟨rfl, _⟩ := strsQ_ok h2 e3
            exact ⟨p, rfl, .inr ⟨xs, h1, hl, fun p np => EndV.newL q R1 np (VRs.strs _)⟩⟩
          · rw [if_neg hl] at q; exact q.elim⟩
end
end Mid
/-! MidU: enumerate of a list, of a tuple. -/
namespace Mid
open PySem PySem.Spec L2 Classical
open PyProof.Rows (IsTup)
set_option maxHeartbeats 1000000 in
theorem enum_new1 {v : Value} {o : Obj} {H : Heap → Prop} (B : Begins v o H) : Meets (Builtin.«enumerate.__new__» ⟨[.type "enumerate", v], []⟩) (fun _ R s => H s.heap ∧
    R (.ok (.ret (.ref (s.heap.push o).objs.size))) { s with heap := (s.heap.push o).push { cls := .type "enumerate", data := .fields #[.none, .bool false, .ref s.heap.objs.size, rawInt 0, .none, .none] } }) := by
  refine .of_wp fun prog w A R s h => ?_
  obtain ⟨hp, g, d, tk, os⟩ := s
  obtain ⟨h1, h⟩ := h
  have hsub := sub_enumerate
  have it : ∀ {A' : Around} {E Q : Value → Shared → Prop}, Q (.ref hp.objs.size) ⟨hp.push o, g, d, tk, os⟩ → wpAny (model prog w) A' (pyIter v) Q E ⟨hp, g, d, tk, os⟩ := fun q => B.iter prog w _ _ ⟨hp, g, d, tk, os⟩ _ h1 q
  wp_walk using it
  refine wpAny_stack_any fun st => wpAny_pure ?_
  split
  · rename_i c _ _ _ _ _
    cases (c == Value.type "enumerate") <;> (wp_walk using it; exact ⟨_, rfl, h⟩)
  · wp_walk using it
    exact ⟨_, rfl, h⟩
theorem enum_call1 {prog : Program} {w : World} {A : Around} {E : Value → Shared → Prop} {s : Shared} {v : Value} {o : Obj} {H : Heap → Prop} {Q : Value → Shared → Prop} (B : Begins v o H) (h1 : H s.heap)
    (h : ∀ h', IsEnum h' (s.heap.objs.size + 1) s.heap.objs.size 0 .none → h'.get? s.heap.objs.size = some o → (∀ b ob, s.heap.get? b = some ob → h'.get? b = some ob) → Q (.ref (s.heap.objs.size + 1)) { s with heap := h' }) : wpAny (model prog w) A (call (.type "enumerate") [v]) Q E s := by
  have hz : (s.heap.push o).objs.size = s.heap.objs.size + 1 := Heap.size_push ..
  have he : ∀ z, z = s.heap.objs.size + 1 → IsEnum ((s.heap.push o).push { cls := .type "enumerate", data := .fields #[.none, .bool false, .ref s.heap.objs.size, rawInt 0, .none, .none] }) z s.heap.objs.size 0 .none := fun z e => by
    rw [e, ← hz]; exact Heap.get?_push_size _ rfl
  refine callType_new F.called_enumerate (by decide) (F.typeCall_enumerate_1 _) (F.newCall_enumerate_1 _) (fun obj => F.args_object_init_2 obj _) F.entry_enumerate_new (enum_new1 B) ⟨h1, ?_⟩
  show _ ∧ _
  rw [hz]
  exact ⟨⟨_, he _ rfl, rfl⟩, h _ (he _ rfl) (Heap.get?_push_of_some _ (Heap.get?_push_size _ B.free)) fun b ob x => Heap.get?_push_of_some _ (Heap.get?_push_of_some _ x)⟩
/-- the tuple at a, each item in a new pair -/
def IteT (K : PySem.W.Frag) (a : Addr) : It :=
  ⟨fun i H => ∃ (xs : List V) (x : V), SqT K H a xs ∧ xs[i]? = some x, fun i H v H' => ∃ T x, v = .ref T ∧ H T = none ∧ H' = upd H T (.tup [.int (i : Nat), x]) ∧ ∀ xs, SqT K H a xs → xs[i]? = some x, fun i H => ∃ xs : List V, SqT K H a xs ∧ xs.length ≤ i⟩
theorem turn_enumT {P : Program} {w : World} {K : PySem.W.Frag} {elts : List Expr} {kk : Nat} {tpos : Pos} (a e it : Addr) :
    Turn P w K (.Tuple elts kk tpos) (IteT K a) [e, it] e (fun i h => (∃ old, IsEnum h e it ((i : Nat) : Int) old) ∧ h.IsTupleIter it a i ∧ e ≠ it ∧ a ≠ it ∧ e ≠ a) where
  mem := by simp
  obj := fun i h st b hb => by
    obtain ⟨⟨old, he⟩, ⟨o, ho, hc, hd⟩, _⟩ := st
    rcases (show b = e ∨ b = it by simpa using hb) with z | z <;> rw [z]
    · exact ⟨_, he, fun v q => nomatch q⟩
    · exact ⟨o, ho, fun v q => by rw [hd] at q; cases q⟩
  keep := fun i h h' st k => by
    obtain ⟨⟨old, he⟩, hi, n1, n2, n3⟩ := st
    exact ⟨⟨old, k e (by simp) _ he⟩, hi.at fun o q => k it (by simp) o q, n1, n2, n3⟩
  item := by
    rintro X rfl rfl rfl hc i pins s σ H E I hf ⟨⟨old, he⟩, hit, n1, n2, n3⟩ ⟨xs, x, hq, hx⟩
    obtain ⟨its, rv, p, hz⟩ := I.tuple hq
    obtain ⟨u, hu, ru⟩ := rv.get hx
    have hel : e < s.heap.objs.size := Heap.lt_size he
    have hil : it < s.heap.objs.size := let ⟨_, q, _⟩ := hit; Heap.lt_size q
    have hlt : i < its.toArray.size := by rw [List.size_toArray]; exact (List.getElem?_eq_some_iff.mp hu).1
    have pt : s.heap.IsTuple a its.toArray := p
    refine wpAny_pyNext_enum_itemD (Draws.tuple (A := X.A.in1) (I.ok.hd hc) it a n2 its.toArray) he ⟨hit, pt⟩ hlt n1 (by simp [n1, n3]) fun x' h' tk hP ho st' hT hsz hk => ?_
    have ex : x' = u := by
      have e1 : its[i]? = some x' := by simpa using hP
      rw [hu] at e1; exact (Option.some.inj e1).symm
    subst ex
    refine ⟨_, rfl, wpAny_letOwnedTupleGo_enum (s := { s with heap := h', toks := tk + 1 }) ho fun h'' he' sb => ?_⟩
    have hT2 := (sb.2 _ (Nat.ne_of_gt hel)).trans hT
    have new : ObjOk X.prog X.w (upd H s.heap.objs.size (.tup [.int (i : Nat), x])) h'' s.heap.objs.size (.tup [.int (i : Nat), x]) := ⟨by show 2 ≤ sizeLine; decide, [.int i tk, x'], .cons ⟨_, rfl⟩ (.cons ru .nil), ⟨_, hT2, rfl, _, rfl⟩⟩
    have I1 := I.turnedNew (t' := tk + 1) (ch := [e, it]) (h' := h'') (fun b ob hb q => (sb.2 b (fun z => hb (by simp [z]))).trans (hk b ob (fun z => hb (by simp [z])) (fun z => hb (by simp [z])) q)) hf (Nat.le_refl _) new
    refine ⟨.ref s.heap.objs.size, _, I1, rfl, ⟨_, x, rfl, I.hok.fresh (Nat.le_refl _), rfl, fun ys hy => by rw [I.tuple_inj hy hq]; exact hx⟩, ⟨⟨x', ?_⟩, st'.1.at fun o q => (sb.2 it (Ne.symm n1)).trans q, n1, n2, n3⟩, fun b hb => ?_⟩
    · rw [show ((i + 1 : Nat) : Int) = (i : Int) + 1 by omega]; exact he'
    · have hb' : b < s.heap.objs.size := by rcases (show b = e ∨ b = it by simpa using hb) with z | z <;> rw [z] <;> assumption
      rw [upd_ne (Nat.ne_of_lt hb')]; exact (hf b hb).1
  done := by
    rintro X rfl rfl rfl hc i pins s σ H E I hf ⟨⟨old, he⟩, hit, n1, n2, n3⟩ ⟨xs, hq, hx⟩
    obtain ⟨its, rv, p, hz⟩ := I.tuple hq
    obtain ⟨f0, f1, f2, f3, f4, f5⟩ := hf it (by simp)
    have pt : s.heap.IsTuple a its.toArray := p
    have hl := rv.length
    have hT : s.TypeIs (.ref e) "enumerate" := ⟨_, he, rfl⟩
    have rest : wpAny (model X.prog X.w) X.A (pyNext (.ref e)) (fun r s1 => r = none ∧ Inv X pins σ H s1) E s := by
      unfold pyNext
      refine wpAny_bind (wpAny_attempt (wpAny_callSpecial?_slot (name := Str.ofString "__next__") hT F.slot_enumerate_next (wpAny_call_entry F.slot_enumerate_next hT F.entry_enumerate_next ?_ (F.args_enumerate_next_1 _))))
      show wpAny _ _ (field (.ref e) 2 >>= _) _ _ _
      refine wpAny_bind (wpAny_field he rfl (x := .ref it) rfl (wpAny_bind (wpAny_nextOf_tuple_end (I.ok.hd hc) hit pt (by simp; omega) fun h' x he' ⟨o, ho, hc'⟩ => ?_)))
      exact wpAny_bind (wpAny_isInstance (T := "StopIteration") (b := true) ⟨o, ho, hc'⟩ isSubtype_stop (wpAny_pure ⟨rfl, I.turned (t' := s.toks) (fun b o hb q => he' b o hb q) f0 f1 f3 f4 f5⟩))
    exact rest
  self := fun A i s Q E st h => let ⟨⟨_, he⟩, _⟩ := st; wpAny_pyIter_enum he h
section
variable {X : Cx} {κ : Kap} {W : WX} {pos p tpos : Pos} {a e : Expr} {ma : ME} {elts : List Expr} {kk : Nat}
def iEnumA (K : PySem.W.Frag) (ta : TA) : TI := fun σ H R => ta σ H fun vs H1 => ∃ a xs, vs = [.ref a] ∧ ((SqL K H1 a xs ∧ R (Ite K a) H1) ∨ (SqT K H1 a xs ∧ R (IteT K a) H1))
theorem pi_enumA {ta : TA} (hg : Gl X "enumerate") (hm : X.mg "enumerate" = none) (ha : PA X [e] ta) (hs : starEach [e] X.env = [(false, eval e X.env)]) : PI X (.Tuple elts kk tpos) (.Call (.Name "enumerate" p) [e] [] pos) (iEnumA X.K ta) := by
  refine ⟨fun pins s σ H R I h => PyProof.Rows.Call_ (ld_blt I hg hm PyProof.Rows.boot_enumerate (PyProof.Rows.callWith_type1 (thn (ha.run pos pins s σ H _ I h) fun us s1 ⟨vs, H1, I1, r1, a, xs, ex, q⟩ => ?_) hs rfl))⟩
  subst ex
  obtain ⟨u, rfl, ru⟩ := r1.one
  obtain rfl : u = Value.ref a := ru
  have fr : ∀ (h' : Heap), ∀ b ∈ [s1.heap.objs.size + 1, s1.heap.objs.size], FpOk X pins H1 b := fun h' b hb => by
    have hle : s1.heap.objs.size ≤ b := by rcases (show b = s1.heap.objs.size + 1 ∨ b = s1.heap.objs.size by simpa using hb) with z | z <;> rw [z] <;> first | exact Nat.le_succ _ | exact Nat.le_refl _
    exact I1.fpOk hle (I1.hok.fresh hle)
  rcases q with ⟨hq, q⟩ | ⟨hq, q⟩
  · obtain ⟨its, rv, p', hz⟩ := I1.list hq
    exact call_enumerate_list p'.isList fun h' he hit hsz hk => wpAny_pyIter_enum he ⟨_, _, _, _, H1, rfl, I1.kept (t' := s1.toks) hk, turn_enum a (s1.heap.objs.size + 1) s1.heap.objs.size, ⟨⟨.none, he⟩, hit, Nat.succ_ne_self _⟩, fr h', q⟩
  · obtain ⟨its, rv, p', hz⟩ := I1.tuple hq
    have pt : s1.heap.IsTuple a its.toArray := p'
    obtain ⟨oa, ga, _⟩ := id p'
    have hl : a < s1.heap.objs.size := Heap.lt_size ga
    exact enum_call1 (begins_tuple a its.toArray) pt fun h' he ho hk => wpAny_pyIter_enum he ⟨_, _, _, _, H1, rfl, I1.kept (t' := s1.toks) hk, turn_enumT a (s1.heap.objs.size + 1) s1.heap.objs.size, ⟨⟨.none, he⟩, ⟨_, ho, rfl, rfl⟩, Nat.succ_ne_self _, Nat.ne_of_lt hl, Nat.ne_of_gt (Nat.lt_succ_of_lt hl)⟩, fr h', q⟩
theorem zipQ_now {s : Mst} {d : Dv} {c : Bool} {l : List Dv} {r : List (Nat × List Dv)} (e : zipQ d s = some (c, l, r)) : Mit.stays r s := by
  unfold zipQ at e
  cases d with
  | loc n =>
    simp only at e
    split at e
    · rename_i l q; cases e; exact ⟨q, trivial⟩
    · cases e
  | clst m => cases e; trivial
  | tup m => cases e; trivial
  | _ => cases e
theorem zipIdx_get {l : List Dv} {i : Nat} {z : Dv} (h : ((l.zipIdx).map fun p => Dv.ptup [.int p.2, p.1])[i]? = some z) : ∃ x, l[i]? = some x ∧ z = .ptup [.int i, x] := by
  rw [List.getElem?_map, List.getElem?_zipIdx] at h
  cases e : l[i]? with
  | none => rw [e] at h; simp at h
  | some x => rw [e] at h; simp at h; exact ⟨x, rfl, by rw [← h]⟩
theorem li_enum (hg : Gl X "enumerate") (hm : X.mg "enumerate" = none) (ha : LE X κ W e ma) (hs : starEach [e] X.env = (false, eval e X.env) :: starEach [] X.env := by rfl) : LI X κ W (.Tuple elts kk tpos) (.Call (.Name "enumerate" p) [e] [] pos) (miEnum ma) :=
  PI.by (pi_enumA hg hm (pa_cons ha pa_nil hs) hs) fun σ H Q ⟨ρ, σd, s, R, hE, h⟩ => ⟨ρ, σd, s, R, hE, (Fin.bind h).mono fun d ρ1 s1 H1 x1 R1 q v hv => by
    cases e1 : zipQ d s1 with
    | none => rw [e1] at q; exact q.elim
    | some z1 =>
      obtain ⟨c, l, r⟩ := z1
      rw [e1] at q
      obtain ⟨t, rfl, f⟩ := zipQ_ok R1 hv e1
      have fin := q ρ1 H1 Step.refl R1
      have st : Mit.stays r s1 := zipQ_now e1
      obtain ⟨vs, h1, h2⟩ := f ρ1 H1 s1 Kp.refl R1 st
      cases c with
      | true =>
        refine ⟨t, vs, rfl, .inr ⟨h1, fin _ fun ρ2 H2 s2 kp R2 st2 => ⟨fun i z e => ?_, fun i hi => ?_⟩⟩⟩
        · obtain ⟨us, g1, g2⟩ := f ρ2 H2 s2 kp R2 st2
          obtain ⟨x, f1, rfl⟩ := zipIdx_get e
          obtain ⟨vx, f2, f3⟩ := g2.get f1
          refine ⟨⟨us, vx, g1, f2⟩, fun v H' y => ?_⟩
          obtain ⟨T, x', rfl, nT, rfl, w1⟩ := y
          have ex := w1 us g1
          rw [f2] at ex; cases ex
          refine ⟨Step.lay nT, R2.lay nT, ?_⟩
          simp only [VR]
          exact ⟨T, [.int (i : Nat), vx], rfl, .inl (.inl upd_same), .cons (by simp only [VR]) (.cons (VR.later R2 (Step.lay nT) _ _ f3) .nil)⟩
        · obtain ⟨us, g1, g2⟩ := f ρ2 H2 s2 kp R2 st2
          exact ⟨us, g1, by rw [g2.length]; simpa using hi⟩
      | false =>
        refine ⟨t, vs, rfl, .inl ⟨h1, fin _ fun ρ2 H2 s2 kp R2 st2 => ⟨fun i z e => ?_, fun i hi => ?_⟩⟩⟩
        · obtain ⟨us, g1, g2⟩ := f ρ2 H2 s2 kp R2 st2
          obtain ⟨x, f1, rfl⟩ := zipIdx_get e
          obtain ⟨vx, f2, f3⟩ := g2.get f1
          refine ⟨⟨us, vx, g1, f2⟩, fun v H' y => ?_⟩
          obtain ⟨T, x', rfl, nT, rfl, w1⟩ := y
          have ex := w1 us g1
          rw [f2] at ex; cases ex
          refine ⟨Step.lay nT, R2.lay nT, ?_⟩
          simp only [VR]
          exact ⟨T, [.int (i : Nat), vx], rfl, .inl (.inl upd_same), .cons (by simp only [VR]) (.cons (VR.later R2 (Step.lay nT) _ _ f3) .nil)⟩
        · obtain ⟨us, g1, g2⟩ := f ρ2 H2 s2 kp R2 st2
          exact ⟨us, g1, by rw [g2.length]; simpa using hi⟩⟩
end
end Mid
/-! Mid10: a def of the text by its name; the law's end. -/
namespace Mid
open PySem PySem.Spec L2 Classical
theorem hu65 {A : Around} {k : Nat} (hr : Room k A) : A.units + 65 < cLine := by have := hr.un; omega
section
variable {P : Program} {w : World} {K : PySem.W.Frag} {mg : Str → Option Value} {base : Heap} {κ : Kap}
/-- the def called x does what F does -/
def Cal (P : Program) (w : World) (K : PySem.W.Frag) (mg : Str → Option Value) (base : Heap) (κ : Kap) (k : Nat) (x : Str) (n : Nat) (F : MF) : Prop :=
  ∃ (f : Addr) (fd : FuncData) (ps : List Str), FnOk P w K mg base CX0 k f fd ps (spF0 K κ n F) ∧ mg x = some (.ref f) ∧ PySem.W.keepIn K (.ref f) = true ∧ Binds K fd ps []
theorem fn_bad {k n : Nat} {f : Addr} {fd : FuncData} {ps : List Str} : FnOk P w K mg base CX0 k f fd ps (spF0 K κ n fun _ _ => .bad) :=
  ⟨fun vs H Q E ⟨_, ρ, ds, s, _, _, h⟩ => h.elim, fun A outer s H args us vs Q E _ _ _ _ ⟨_, ρ, ds, s', _, _, h⟩ => h.elim⟩
theorem Cal.mono {j k n : Nat} {x : Str} {F : MF} (c : Cal P w K mg base κ j x n F) (h : j ≤ k) : Cal P w K mg base κ k x n F := by
  obtain ⟨f, fd, ps, a, b, c, d⟩ := c
  exact ⟨f, fd, ps, a.mono h, b, c, d⟩
end
theorem le_calC {X : Cx} {κ : Kap} {W : WX} {k n : Nat} {x : Str} {F : MF} {e : Expr} {es : List Expr} {ms : List ME} {p pos : Pos} (c : Cal X.prog X.w X.K X.mg X.base κ k x n F) (hr : Room k X.A) (hg : Gl X x) (ha : LA X κ W (e :: es) ms) (hn : ms.length = n := by rfl)
    (hdb : (x == ("__debug__" : Str)) = false := by decide) (he : starEach (e :: es) X.env = (false, eval e X.env) :: starEach es X.env := by rfl) (hpl : (backTo pos (starEach es X.env)).any (·.1) = false := by rfl) : LE X κ W (.Call (.Name x p) (e :: es) [] pos) (mCall (noE F) ms) := by
  obtain ⟨f, fd, ps, G, hm, hk, hb⟩ := c
  exact le_call0 G hr hg hm hk hb ha hn hdb he hpl
/-- a promise wherever the classes lie -/
def spFX (K : PySem.W.Frag) (w : World) (n : Nat) (F : MF) : Sp := fun vs H Q E => ∀ at', spF0 K ⟨at', w⟩ n F vs H Q E
/-- the law's end: where the plain model tells True of every script -/
theorem law_end {K : PySem.W.Frag} {κ : Kap} {F : MF} {H : Hp} {a : Addr} {ns : List Int} (hO : Only H) (hS : SqL K H a (ns.map V.int)) (h : ∃ s, F [.clst (ns.map Dv.int)] [] = .ok (.bl true) s) :
    spF0 K κ 1 F [.ref a] H (fun v _ => v = .bl true) fun _ _ _ => False := by
  obtain ⟨s, h⟩ := h
  have hI : SqI K H a (ns.map V.int) := by
    rcases hS with (hS | ⟨o, hS⟩) | hS
    · rcases hO a with q | ⟨o, xs, q⟩
      · rw [q] at hS; cases hS
      · rw [q] at hS; cases hS
    · exact .inl ⟨o, hS⟩
    · exact .inr hS
  refine ⟨rfl, [], [.clst (ns.map Dv.int)], [], ⟨rfl, List.nodup_nil, fun n a o e _ => by simp at e⟩, .cons (by simp only [VR]; exact ⟨a, _, rfl, hI, VRs.ints ns⟩) .nil, ?_⟩
  rw [h]
  exact fun ρ' H' x R v hv => hv.bl
/-- a name of the module's own top, a number or a text -/
theorem le_gv {X : Cx} {κ : Kap} {W : WX} {x : Str} {pos : Pos} {d : Dv} {v : V} (hg : Gl X x) (h : ∃ u, X.mg x = some u ∧ RelV v u) (hd : ∀ (ρ : List Addr) (H : Hp), VR X.K κ ρ H d v) (hdb : (x == ("__debug__" : Str)) = false := by decide) : LE X κ W (.Name x pos) (mC d) :=
  let ⟨_, hm, r⟩ := h; le_c (pe_glob hg hm r (hd := hdb)) hd
end Mid
/-! MidC: instances of classes of the program's own. -/
namespace Mid
open PySem PySem.Spec L2 Classical
noncomputable section
structure Attr (K : PySem.W.Frag) (κ : Kap) (cs : List Nat) (f : Str) : Prop where
  all : ∀ C ∈ cs, Cls K (κ C) ∧ NoAttr K (κ C) f
section
variable {X : Cx} {κ : Kap} {W : WX} {pos : Pos} {a : Expr} {ma : ME} {cs : List Nat} {f : Str}
theorem look_ok {K : PySem.W.Frag} {ρ : List Addr} {H : Hp} {f : Str} : ∀ {fs : List (Str × Dv)} {vs : List (Str × V)} {d : Dv}, vs.map (·.1) = fs.map (·.1) → VRs K κ ρ H (fs.map (·.2)) (vs.map (·.2)) → fs.lookup f = some d → ∃ v, vs.lookup f = some v ∧ VR K κ ρ H d v
  | [], _, d, _, _, e => by cases e
  | (g, u) :: r, [], d, h, _, _ => by cases h
  | (g, u) :: r, (g', u') :: r', d, h, hr, e => by
    simp only [List.map_cons, List.cons.injEq] at h
    obtain ⟨rfl, h⟩ := h
    obtain ⟨v, w, e1, h1, h2⟩ := hr
    simp only [List.map_cons, List.cons.injEq] at e1
    obtain ⟨rfl, rfl⟩ := e1
    rw [List.lookup_cons] at e ⊢
    cases q : f == g' with
    | true => rw [q] at e; cases e; exact ⟨_, rfl, h1⟩
    | false => rw [q] at e; exact look_ok h h2 e
theorem le_fld (ha : LE X κ W a ma) (A : Attr X.K κ cs f) (hb : attributeBase a f X.env (eval a X.env) = eval a X.env := by rfl) : LE X κ W (.Attribute a f pos) (mUn (oFld cs f) ma) :=
  PE.by (pe_fld ha hb) fun σ H Q ⟨ρ, σd, s, R, hE, h⟩ => ⟨ρ, σd, s, R, hE, (Fin.bind h).mono fun d ρ1 s1 H1 x1 R1 q v hv => by
    cases d with
    | loc n =>
      unfold oFld at q
      simp only at q
      cases e : s1[n]? with
      | none => rw [e] at q; exact q.elim
      | some o =>
        rw [e] at q
        cases o with
        | ins C fs =>
          simp only at q
          by_cases hc : C ∈ cs
          · rw [if_pos hc] at q
            obtain ⟨p, _, rfl, dx, vs, e1, k, r⟩ := R1.loc hv e
            cases e2 : fs.lookup f with
            | none => rw [e2] at q; exact q.elim
            | some d =>
              rw [e2] at q
              obtain ⟨u, e3, hu⟩ := look_ok k r e2
              exact ⟨p, κ C, dx, vs, u, rfl, e1, (A.all C hc).1, (A.all C hc).2, e3, EndV.ok q R1 hu⟩
          · rw [if_neg hc] at q; exact q.elim
        | _ => exact q.elim
    | _ => exact q.elim⟩
theorem putA_ok {K : PySem.W.Frag} {ρ : List Addr} {H : Hp} {f : Str} {d : Dv} {v : V} (hv : VR K κ ρ H d v) : ∀ {fs : List (Str × Dv)} {vs : List (Str × V)}, vs.map (·.1) = fs.map (·.1) → VRs K κ ρ H (fs.map (·.2)) (vs.map (·.2)) →
    (putF f v vs).map (·.1) = (putA f d fs).map (·.1) ∧ VRs K κ ρ H ((putA f d fs).map (·.2)) ((putF f v vs).map (·.2))
  | [], [], _, _ => ⟨rfl, v, [], rfl, hv, rfl⟩
  | [], _ :: _, h, _ => by cases h
  | _ :: _, [], h, _ => by cases h
  | (g, u) :: r, (g', u') :: r', h, hr => by
    simp only [List.map_cons, List.cons.injEq] at h
    obtain ⟨rfl, h⟩ := h
    obtain ⟨x, w, e1, h1, h2⟩ := hr
    simp only [List.map_cons, List.cons.injEq] at e1
    obtain ⟨rfl, rfl⟩ := e1
    unfold putF putA
    by_cases q : g' = f
    · rw [if_pos q, if_pos q]
      exact ⟨by simp [h], v, _, rfl, hv, h2⟩
    · rw [if_neg q, if_neg q]
      obtain ⟨k1, k2⟩ := putA_ok hv h h2
      exact ⟨by simp [k1], u', _, rfl, h1, k2⟩
theorem ls_fldC {e : Expr} {me : ME} {pos' : Pos} (ha : LE X κ W a ma) (he : LE X κ W e me) (A : Attr X.K κ cs f) (hs : swapsWith e (some (.Attribute a f pos')) pos.line X.env = pure false := by rfl) :
    LS X κ W (.Assign [.Attribute a f pos'] e pos) (msFldC cs f ma me) :=
  PS.by (ps_fld ha he hs) fun D σ H ⟨ρ, σd, s, R, hE, h⟩ => ⟨ρ, σd, s, R, hE, (FinS.st h R hE).mono fun d ρ1 s1 H1 x1 R1 q v hv => ⟨ρ1, σd, s1, R1, hE.later R x1, (FinS.st q R1 (hE.later R x1)).mono fun d2 ρ2 s2 H2 x2 R2 q2 v2 hv2 => by
    cases d2 with
    | loc n =>
      simp only at q2
      cases e : s2[n]? with
      | none => rw [e] at q2; exact q2.elim
      | some o =>
        rw [e] at q2
        cases o with
        | ins C fs =>
          simp only at q2
          by_cases hc : C ∈ cs ∧ fs.length < 1000
          · rw [if_pos hc] at q2
            obtain ⟨p, e0, rfl, dx, vs, e1, k, r⟩ := R2.loc hv2 e
            have hl : vs.length = fs.length := by
              have := congrArg List.length k
              simpa using this
            have hv' := VR.later R1 x2 _ _ hv
            obtain ⟨k1, k2⟩ := putA_ok (f := f) hv' k r
            refine ⟨p, κ C, dx, vs, rfl, e1, (A.all C hc.1).1, (A.all C hc.1).2, by omega, ?_⟩
            exact q2 ρ2 _ σ (Step.put e0) (R2.put e0 ⟨dx, _, upd_same, k1, VRs.later R2 (Step.put e0) _ _ k2⟩) (((hE.later R x1).later R1 x2).later R2 (Step.put e0))
          · rw [if_neg hc] at q2; exact q2.elim
        | _ => exact q2.elim
    | _ => exact q2.elim⟩⟩
theorem look_no {K : PySem.W.Frag} {ρ : List Addr} {H : Hp} {f : Str} : ∀ {fs : List (Str × Dv)} {vs : List (Str × V)}, vs.map (·.1) = fs.map (·.1) → fs.lookup f = none → vs.lookup f = none
  | [], [], _, _ => rfl
  | [], _ :: _, h, _ => by cases h
  | _ :: _, [], h, _ => by cases h
  | (g, u) :: r, (g', u') :: r', h, e => by
    simp only [List.map_cons, List.cons.injEq] at h
    obtain ⟨rfl, h⟩ := h
    rw [List.lookup_cons] at e ⊢
    cases q : f == g' with
    | true => rw [q] at e; cases e
    | false => rw [q] at e; exact look_no (K := K) (ρ := ρ) (H := H) h e
theorem le_methC {e : Expr} {es : List Expr} {ms : List ME} {C k n : Nat} {m : Str} {g : Addr} {fd : FuncData} {ps : List Str} {F : MF} {apos : Pos} {pl : Sem Bool} (ho : LE X κ W a ma) (c : Cls X.K (κ C)) (hm : Meth X.K (κ C) m g)
    (G : FnOk X.prog X.w X.K X.mg X.base CX0 k g fd ps (spF0 X.K κ n F)) (hr : Room k X.A) (hb : Binds X.K fd ps []) (ha : LA X κ W (e :: es) ms) (hn : ms.length + 1 = n := by rfl)
    (hst : starEach (e :: es) X.env = (false, eval e X.env) :: starEach es X.env := by rfl) (hpl : (backTo pos (starEach es X.env)).any (·.1) = false := by rfl)
    (ht : eval (.Call (.Attribute a m apos) (e :: es) [] pos) X.env = (do
      let ov ← eval a X.env
      standAt apos.atName
      let (f, first) ← holding [ov] (getMethod ov m pl)
      callWith pos f first (backTo pos (starEach (e :: es) X.env)) (backToKw pos (keywordEach [] X.env))) := by rfl) :
    LE X κ W (.Call (.Attribute a m apos) (e :: es) [] pos) (mMethC C m F ma ms) :=
  PE.by (pe_meth (E := E0) ho c hm G hr hb .nil pass0 ha hst hpl ht) fun σ H Q ⟨ρ, σd, s, R, hE, h⟩ => ⟨ρ, σd, s, R, hE, (Fin.bind h).mono fun d ρ1 s1 H1 x1 R1 q v hv => by
    cases d with
    | loc i =>
      simp only at q
      cases e : s1[i]? with
      | none => rw [e] at q; exact q.elim
      | some o =>
        rw [e] at q
        cases o with
        | ins C' fs =>
          simp only at q
          by_cases hc : C' = C ∧ fs.lookup m = none
          · rw [if_pos hc] at q
            obtain ⟨rfl, hl⟩ := hc
            obtain ⟨p, e0, rfl, dx, vs, e1, kk, r⟩ := R1.loc hv e
            refine ⟨p, dx, vs, rfl, e1, look_no (K := X.K) (ρ := ρ1) (H := H1) kk hl, ρ1, σd, s1, R1, hE.later R x1, (Fin.args (Fin.bind q)).mono fun ds ρ2 s2 H2 x2 R2 ⟨hnn, h1⟩ us hus => ?_⟩
            show spF0 X.K κ n F (.ref p :: (us ++ [])) H2 Q E0
            rw [List.append_nil]
            refine ⟨by rw [List.length_cons, hus.length, hnn, hn], ρ2, .loc i :: ds, s2, R2, .cons (VR.later R1 x2 _ _ hv) hus, Fin.noEr h1⟩
          · rw [if_neg hc] at q; exact q.elim
        | _ => exact q.elim
    | _ => exact q.elim⟩
theorem le_methC0 {C k : Nat} {m : Str} {g : Addr} {fd : FuncData} {ps : List Str} {F : MF} {apos : Pos} {pl : Sem Bool} (ho : LE X κ W a ma) (c : Cls X.K (κ C)) (hm : Meth X.K (κ C) m g)
    (G : FnOk X.prog X.w X.K X.mg X.base CX0 k g fd ps (spF0 X.K κ 1 F)) (hr : Room k X.A) (hb : Binds X.K fd ps [])
    (ht : eval (.Call (.Attribute a m apos) [] [] pos) X.env = (do
      let ov ← eval a X.env
      standAt apos.atName
      let (f, first) ← holding [ov] (getMethod ov m pl)
      callWith pos f first (backTo pos (starEach [] X.env)) (backToKw pos (keywordEach [] X.env))) := by rfl) :
    LE X κ W (.Call (.Attribute a m apos) [] [] pos) (mMethC C m F ma []) :=
  PE.by (pe_meth0 (E := E0) ho c hm G hr hb .nil pass0 ht) fun σ H Q ⟨ρ, σd, s, R, hE, h⟩ => ⟨ρ, σd, s, R, hE, (Fin.bind h).mono fun d ρ1 s1 H1 x1 R1 q v hv => by
    cases d with
    | loc i =>
      simp only at q
      cases e : s1[i]? with
      | none => rw [e] at q; exact q.elim
      | some o =>
        rw [e] at q
        cases o with
        | ins C' fs =>
          simp only at q
          by_cases hc : C' = C ∧ fs.lookup m = none
          · rw [if_pos hc] at q
            obtain ⟨rfl, hl⟩ := hc
            obtain ⟨p, e0, rfl, dx, vs, e1, kk, r⟩ := R1.loc hv e
            refine ⟨p, dx, vs, rfl, e1, look_no (K := X.K) (ρ := ρ1) (H := H1) kk hl, ?_⟩
            show spF0 X.K κ 1 F (.ref p :: ([] ++ [])) H1 Q E0
            exact ⟨rfl, ρ1, [.loc i], s1, R1, .cons hv .nil, Fin.noEr q⟩
          · rw [if_neg hc] at q; exact q.elim
        | _ => exact q.elim
    | _ => exact q.elim⟩
/-- C(..): a new instance, then its __init__ -/
theorem le_makeC {e : Expr} {es : List Expr} {ms : List ME} {C k n : Nat} {x : Str} {g : Addr} {fd : FuncData} {ps : List Str} {F : MF} {p : Pos} (M : Mk X.K (κ C) g)
    (G : FnOk X.prog X.w X.K X.mg X.base CX0 k g fd ps (spF0 X.K κ n F)) (hr : Room (k + 1) X.A) (hg : Gl X x) (hm : X.mg x = some (.ref (κ C))) (hb : Binds X.K fd ps []) (ha : LA X κ W (e :: es) ms) (hn : ms.length + 1 = n := by rfl)
    (hdb : (x == ("__debug__" : Str)) = false := by decide) (he : starEach (e :: es) X.env = (false, eval e X.env) :: starEach es X.env := by rfl) (hpl : (backTo pos (starEach es X.env)).any (·.1) = false := by rfl) :
    LE X κ W (.Call (.Name x p) (e :: es) [] pos) (mCall (noE (mMake C F)) ms) :=
  PE.by (pe_make (E := E0) M G hr hg hm hb .nil pass0 ha hdb he hpl) fun σ H Q ⟨ρ, σd, s, R, hE, h⟩ => ⟨ρ, σd, s, R, hE, (Fin.args (Fin.bind h)).mono fun ds ρ1 s1 H1 x1 R1 ⟨hnn, h1⟩ vs hvs => fun q dx nq ndx hne => by
    show spF0 X.K κ n F (.ref q :: (vs ++ [])) _ _ E0
    rw [List.append_nil]
    have nq' : upd H1 dx (.own q) q = none := by rw [upd_ne (fun z => hne z.symm)]; exact nq
    have R2 : Rel X.K κ ρ1 (upd H1 dx (.own q)) s1 := R1.lay ndx
    have R3 : Rel X.K κ (ρ1 ++ [q]) (upd (upd H1 dx (.own q)) q (.ins (κ C) dx [])) (s1 ++ [.ins C []]) := R2.new nq' ⟨dx, [], upd_same, rfl, rfl⟩
    have x3 : Step ρ1 H1 (ρ1 ++ [q]) (upd (upd H1 dx (.own q)) q (.ins (κ C) dx [])) := (Step.lay ndx).trans (Step.new nq')
    have h2 := Fin.bind (W := W0) (σ := []) (r := F (.loc s1.length :: ds) (s1 ++ [.ins C []])) (Fin.noEr h1)
    refine ⟨by rw [List.length_cons, hvs.length, hnn, hn], ρ1 ++ [q], .loc s1.length :: ds, s1 ++ [.ins C []], R3, .cons (by rw [← R1.len]; exact VR.last) (VRs.later R1 x3 _ _ hvs), ?_⟩
    refine (Fin.step h2 x3).mono fun d ρ4 s4 H4 x4 R4 q4 v hv => ?_
    cases d with
    | non =>
      refine ⟨by simpa only [VR] using hv, q4 ρ4 H4 Step.refl R4 _ (VR.later R3 x4 _ _ ?_)⟩
      rw [← R1.len]; exact VR.last
    | _ => exact q4.elim⟩
/-- the def m of the class C does what F does -/
def CalM (P : Program) (w : World) (K : PySem.W.Frag) (mg : Str → Option Value) (base : Heap) (κ : Kap) (k C : Nat) (m : Str) (n : Nat) (F : MF) : Prop :=
  ∃ (f : Addr) (fd : FuncData) (ps : List Str), FnOk P w K mg base CX0 k f fd ps (spF0 K κ n F) ∧ Cls K (κ C) ∧ Meth K (κ C) m f ∧ Binds K fd ps []
/-- x, called, makes an instance of C by F -/
def CalN (P : Program) (w : World) (K : PySem.W.Frag) (mg : Str → Option Value) (base : Heap) (κ : Kap) (k C : Nat) (x : Str) (n : Nat) (F : MF) : Prop :=
  ∃ (f : Addr) (fd : FuncData) (ps : List Str), FnOk P w K mg base CX0 k f fd ps (spF0 K κ n F) ∧ Mk K (κ C) f ∧ mg x = some (.ref (κ C)) ∧ Binds K fd ps []
section
variable {P : Program} {w : World} {K : PySem.W.Frag} {mg : Str → Option Value} {base : Heap} {j k C n : Nat} {m x : Str} {F : MF}
theorem CalM.mono (c : CalM P w K mg base κ j C m n F) (h : j ≤ k) : CalM P w K mg base κ k C m n F := by
  obtain ⟨f, fd, ps, a, b, c, d⟩ := c
  exact ⟨f, fd, ps, a.mono h, b, c, d⟩
theorem CalN.mono (c : CalN P w K mg base κ j C x n F) (h : j ≤ k) : CalN P w K mg base κ k C x n F := by
  obtain ⟨f, fd, ps, a, b, c, d⟩ := c
  exact ⟨f, fd, ps, a.mono h, b, c, d⟩
end
theorem le_methM {e : Expr} {es : List Expr} {ms : List ME} {C k n : Nat} {m : Str} {F : MF} {apos : Pos} {pl : Sem Bool} (c : CalM X.prog X.w X.K X.mg X.base κ k C m n F) (hr : Room k X.A) (ho : LE X κ W a ma) (ha : LA X κ W (e :: es) ms) (hn : ms.length + 1 = n := by rfl)
    (hst : starEach (e :: es) X.env = (false, eval e X.env) :: starEach es X.env := by rfl) (hpl : (backTo pos (starEach es X.env)).any (·.1) = false := by rfl)
    (ht : eval (.Call (.Attribute a m apos) (e :: es) [] pos) X.env = (do
      let ov ← eval a X.env
      standAt apos.atName
      let (f, first) ← holding [ov] (getMethod ov m pl)
      callWith pos f first (backTo pos (starEach (e :: es) X.env)) (backToKw pos (keywordEach [] X.env))) := by rfl) :
    LE X κ W (.Call (.Attribute a m apos) (e :: es) [] pos) (mMethC C m F ma ms) := by
  obtain ⟨f, fd, ps, G, hc, hm, hb⟩ := c
  exact le_methC ho hc hm G hr hb ha hn hst hpl ht
theorem le_methM0 {C k : Nat} {m : Str} {F : MF} {apos : Pos} {pl : Sem Bool} (c : CalM X.prog X.w X.K X.mg X.base κ k C m 1 F) (hr : Room k X.A) (ho : LE X κ W a ma)
    (ht : eval (.Call (.Attribute a m apos) [] [] pos) X.env = (do
      let ov ← eval a X.env
      standAt apos.atName
      let (f, first) ← holding [ov] (getMethod ov m pl)
      callWith pos f first (backTo pos (starEach [] X.env)) (backToKw pos (keywordEach [] X.env))) := by rfl) :
    LE X κ W (.Call (.Attribute a m apos) [] [] pos) (mMethC C m F ma []) := by
  obtain ⟨f, fd, ps, G, hc, hm, hb⟩ := c
  exact le_methC0 ho hc hm G hr hb ht
theorem le_makeN {e : Expr} {es : List Expr} {ms : List ME} {C k n : Nat} {x : Str} {F : MF} {p : Pos} (c : CalN X.prog X.w X.K X.mg X.base κ k C x n F) (hr : Room (k + 1) X.A) (hg : Gl X x) (ha : LA X κ W (e :: es) ms) (hn : ms.length + 1 = n := by rfl)
    (hdb : (x == ("__debug__" : Str)) = false := by decide) (he : starEach (e :: es) X.env = (false, eval e X.env) :: starEach es X.env := by rfl) (hpl : (backTo pos (starEach es X.env)).any (·.1) = false := by rfl) :
    LE X κ W (.Call (.Name x p) (e :: es) [] pos) (mCall (noE (mMake C F)) ms) := by
  obtain ⟨f, fd, ps, G, M, hm, hb⟩ := c
  exact le_makeC M G hr hg hm hb ha hn hdb he hpl
end
end
end Mid
/-! MidW: what holds behind a piece of the plain model. -/
namespace Mid
open PySem Classical
noncomputable section
def Rm.to {α : Type} (r : Rm α) (Q : α → Mst → Prop) : Prop := match r with
  | .ok a s => Q a s
  | _ => False
def Sm.to (r : Sm) (N : Men → Mst → Prop) (R : Dv → Mst → Prop) (C B : Men → Mst → Prop) : Prop := match r with
  | .nx σ s => N σ s
  | .rt d s => R d s
  | .ct σ s => C σ s
  | .bk σ s => B σ s
  | _ => False
def Dv.toB (d : Dv) (Q : Bool → Prop) : Prop := match d with
  | .bl c => Q c
  | _ => False
def Dv.toI (d : Dv) (Q : Int → Prop) : Prop := match d with
  | .int c => Q c
  | _ => False
def Dv.toS (d : Dv) (Q : Str → Prop) : Prop := match d with
  | .str c => Q c
  | _ => False
@[simp] theorem toB_bl (c : Bool) (Q : Bool → Prop) : (Dv.bl c).toB Q = Q c := id rfl
@[simp] theorem toI_int (c : Int) (Q : Int → Prop) : (Dv.int c).toI Q = Q c := id rfl
@[simp] theorem toS_str (c : Str) (Q : Str → Prop) : (Dv.str c).toS Q = Q c := id rfl
section
variable {α β : Type} {Q Q' : α → Mst → Prop} {N N' : Men → Mst → Prop} {R R' : Dv → Mst → Prop} {C B C' B' : Men → Mst → Prop} {σ : Men} {s : Mst}
@[simp] theorem to_ok (a : α) : (Rm.ok a s).to Q = Q a s := id rfl
@[simp] theorem to_bad : (Rm.bad : Rm α).to Q = False := id rfl
theorem to_bind (r : Rm α) (f : α → Mst → Rm β) (Q : β → Mst → Prop) : (r.bind f).to Q = r.to fun a s => (f a s).to Q := by cases r <;> rfl
@[simp] theorem to_noEr (r : Rm α) : r.noEr.to Q = r.to Q := by cases r <;> rfl
theorem to_mono {r : Rm α} (h : r.to Q) (f : ∀ a s, Q a s → Q' a s) : r.to Q' := by
  cases r with
  | ok a s => exact f a s h
  | er e s => exact h
  | bad => exact h
theorem to_ex {r : Rm α} (h : r.to Q) : ∃ a s, r = .ok a s ∧ Q a s := by
  cases r with
  | ok a s => exact ⟨a, s, rfl, h⟩
  | er e s => exact h.elim
  | bad => exact h.elim
theorem sto_mono {r : Sm} (h : r.to N R C B) (f : ∀ a s, N a s → N' a s) (g : ∀ a s, R a s → R' a s) (hc : ∀ a s, C a s → C' a s) (hb : ∀ a s, B a s → B' a s) : r.to N' R' C' B' := by
  cases r with
  | nx a s => exact f a s h
  | rt a s => exact g a s h
  | ct a s => exact hc a s h
  | bk a s => exact hb a s h
  | er e a s => exact h
  | bad => exact h
@[simp] theorem to_nx : (Sm.nx σ s).to N R C B = N σ s := id rfl
@[simp] theorem to_rt (d : Dv) : (Sm.rt d s).to N R C B = R d s := id rfl
theorem to_st (r : Rm α) (f : α → Mst → Sm) : (r.st σ f).to N R C B = r.to fun a s => (f a s).to N R C B := by cases r <;> rfl
theorem to_andThen (r : Sm) (f : MS) : (r.andThen f).to N R C B = r.to (fun σ s => (f σ s).to N R C B) R C B := by cases r <;> rfl
theorem to_turn (r : Sm) (f : MS) : (r.turn f).to N R C B = r.to (fun σ s => (f σ s).to N R C B) R (fun σ s => (f σ s).to N R C B) N := by cases r <;> rfl
/-! statements -/
@[simp] theorem w_seq (a b : MS) : (msSeq a b σ s).to N R C B = (a σ s).to (fun σ s => (b σ s).to N R C B) R C B := to_andThen _ _
@[simp] theorem w_nx : (msNx σ s).to N R C B = N σ s := id rfl
@[simp] theorem w_brk : (msBrk σ s).to N R C B = B σ s := id rfl
@[simp] theorem w_cnt : (msCnt σ s).to N R C B = C σ s := id rfl
@[simp] theorem w_set (i : Nat) (e : ME) : (msSet i e σ s).to N R C B = (e σ s).to fun d s => N (σ.set i (some d)) s := to_st _ _
@[simp] theorem w_asg (g : MG) (e : ME) : (msAsg g e σ s).to N R C B = (e σ s).to fun d s => (g d σ s).to fun σ' s => N σ' s := by
  unfold msAsg; rw [to_st]; congr; funext d s'; rw [to_st]; rfl
@[simp] theorem w_exp (e : ME) : (msExp e σ s).to N R C B = (e σ s).to fun _ s => N σ s := to_st _ _
@[simp] theorem w_ret (e : ME) : (msRet e σ s).to N R C B = (e σ s).to R := to_st _ _
@[simp] theorem w_retN : (msRetN σ s).to N R C B = R .non s := id rfl
@[simp] theorem w_if (t : MT) (a b : MS) : (msIf t a b σ s).to N R C B = (t σ s).to fun c s => if c = true then (a σ s).to N R C B else (b σ s).to N R C B := by
  unfold msIf; rw [to_st]; congr; funext c s'; cases c <;> rfl
@[simp] theorem w_put (f : Dv → Dv → Dv → Mst → Rm Unit) (o i e : ME) : (msPut f o i e σ s).to N R C B = (e σ s).to fun v s => (o σ s).to fun x s => (i σ s).to fun y s => (f x y v s).to fun _ s => N σ s := by
  unfold msPut; rw [to_st]; congr; funext v s1; rw [to_st]; congr; funext x s2; rw [to_st]; congr; funext y s3; rw [to_st]; rfl
@[simp] theorem w_for (it : MI) (g : MG) (b : MS) : (msFor it g b σ s).to N R C B = (it σ s).to fun i s => (forF i.src g b i.xs σ s).to N R C B := to_st _ _
/-! expressions -/
theorem mVar_eq {i : Nat} {d : Dv} (h : σ[i]? = some (some d)) : mVar i σ s = .ok d s := by unfold mVar; rw [h]
@[simp] theorem v0 (d : Dv) (r : Men) : mVar 0 (some d :: r) s = .ok d s := id rfl
@[simp] theorem vS (o : Option Dv) (i : Nat) (r : Men) : mVar (i + 1) (o :: r) s = mVar i r s := id rfl
@[simp] theorem mC_eq (d : Dv) : mC d σ s = .ok d s := id rfl
section
variable {Q : Dv → Mst → Prop}
@[simp] theorem w_op (f : Dv → Dv → Mst → Rm Dv) (a b : ME) : (mOp f a b σ s).to Q = (a σ s).to fun x s => (b σ s).to fun y s => (f x y s).to Q := by
  unfold mOp; rw [to_bind]; congr; funext x s1; rw [to_bind]
@[simp] theorem w_un (f : Dv → Mst → Rm Dv) (a : ME) : (mUn f a σ s).to Q = (a σ s).to fun x s => (f x s).to Q := to_bind _ _ _
@[simp] theorem w_tup (ms : List ME) : (mTup ms σ s).to Q = (mArgs ms σ s).to fun ds s => Q (.tup ds) s := to_bind _ _ _
@[simp] theorem w_lst (ms : List ME) : (mLst ms σ s).to Q = (mArgs ms σ s).to fun ds s => Q (.loc s.length) (s ++ [.lst ds]) := to_bind _ _ _
@[simp] theorem w_call (F : MF) (ms : List ME) : (mCall F ms σ s).to Q = (mArgs ms σ s).to fun ds s => (F ds s).to Q := to_bind _ _ _
@[simp] theorem w_noE (F : MF) (ds : List Dv) : (noE F ds s).to Q = (F ds s).to Q := to_noEr _
@[simp] theorem w_meth (T : String) (F : MF) (m : ME) (ms : List ME) : (mMeth T F m ms σ s).to Q = (m σ s).to fun d s => tyQ d s = T ∧ (mArgs ms σ s).to fun ds s => (F (d :: ds) s).to Q := by
  unfold mMeth; rw [to_bind]; congr; funext x s1
  by_cases h : tyQ x s1 = T
  · rw [if_pos h, to_bind]; simp [h]
  · rw [if_neg h]; simp [h]
@[simp] theorem w_and (a b : ME) : (mAnd a b σ s).to Q = (a σ s).to fun d s => d.toB fun c => if c = true then (b σ s).to Q else Q (.bl false) s := by
  unfold mAnd mtVal; rw [to_bind, to_bind]; congr; funext d s1
  cases d with
  | bl c => cases c <;> rfl
  | _ => rfl
@[simp] theorem w_or (a b : ME) : (mOr a b σ s).to Q = (a σ s).to fun d s => d.toB fun c => if c = true then Q (.bl true) s else (b σ s).to Q := by
  unfold mOr mtVal; rw [to_bind, to_bind]; congr; funext d s1
  cases d with
  | bl c => cases c <;> rfl
  | _ => rfl
@[simp] theorem w_not (a : ME) : (mNot a σ s).to Q = (a σ s).to fun d s => d.toB fun c => Q (.bl (!c)) s := by
  unfold mNot mtVal; rw [to_bind, to_bind]; congr; funext d s1
  cases d <;> rfl
@[simp] theorem w_ife (t : MT) (a b : ME) : (mIf t a b σ s).to Q = (t σ s).to fun c s => if c = true then (a σ s).to Q else (b σ s).to Q := by
  unfold mIf; rw [to_bind]; congr; funext c s1; cases c <;> rfl
@[simp] theorem w_lc (it : MI) (g : MG) (t : MT) (e : ME) (vs : List Nat) : (mLc it g t e vs σ s).to Q = (it σ s).to fun i s => (lcF i.src g t e (mWipe σ vs) i.xs s).to fun ds s => i.xs.length < 2 ^ 24 ∧ Q (.loc s.length) (s ++ [.lst ds]) := by
  unfold mLc; rw [to_bind]; congr; funext i s1; rw [to_bind, to_noEr]; congr; funext ds s2
  by_cases h : i.xs.length < 2 ^ 24
  · rw [if_pos h]; simp [h]
  · rw [if_neg h]; simp [h]
@[simp] theorem w_slice (m : ME) (lo hi : MO') : (mSlice m lo hi σ s).to Q = (m σ s).to fun x s => (lo σ s).to fun l s => (hi σ s).to fun h s => (slQ x l h s).to Q := by
  unfold mSlice; rw [to_bind]; congr; funext x s1; rw [to_bind]; congr; funext l s2; rw [to_bind]
@[simp] theorem w_disp (ps : List (ME × ME)) : (mDisp ps σ s).to Q = (mPairs ps σ s).to fun l s => ∃ kvs, dispQ l = some kvs ∧ Q (.loc s.length) (s ++ [.dK (kputs [] kvs)]) := by
  unfold mDisp; rw [to_bind]; congr; funext l s1
  cases dispQ l with
  | none => simp
  | some kvs => simp [mNew]
@[simp] theorem w_listRg (a b : ME) : (bListRg a b σ s).to Q = (a σ s).to fun x s => (b σ s).to fun y s => x.toI fun i => y.toI fun j => (-(2 ^ 62) ≤ i ∧ i < 2 ^ 62 ∧ -(2 ^ 62) ≤ j ∧ j < 2 ^ 62 ∧ (j - i).toNat ≤ 2 ^ 24) ∧ Q (.loc s.length) (s ++ [.lst (rngI i (j - i).toNat)]) := by
  unfold bListRg; rw [to_bind]; congr; funext x s1; rw [to_bind]; congr; funext y s2
  cases x with
  | int i =>
    cases y with
    | int j =>
      simp only [toI_int]
      by_cases h : -(2 ^ 62) ≤ i ∧ i < 2 ^ 62 ∧ -(2 ^ 62) ≤ j ∧ j < 2 ^ 62 ∧ (j - i).toNat ≤ 2 ^ 24
      · rw [if_pos h]; simp only [h, true_and, and_self]; rfl
      · rw [if_neg h]; simp only [to_bad, false_iff, eq_iff_iff]; exact fun z => h z.1
    | _ => rfl
  | _ => rfl
@[simp] theorem w_ofO (o : Option α) (Q : α → Mst → Prop) : (ofO o s).to Q = ∃ d, o = some d ∧ Q d s := by
  cases o <;> simp
@[simp] theorem w_new (o : MO) : (mNew o s).to Q = Q (.loc s.length) (s ++ [o]) := id rfl
end
@[simp] theorem w_args0 {Q : List Dv → Mst → Prop} : (mArgs [] σ s).to Q = Q [] s := id rfl
@[simp] theorem w_argsS {Q : List Dv → Mst → Prop} (m : ME) (ms : List ME) : (mArgs (m :: ms) σ s).to Q = (m σ s).to fun d s => (mArgs ms σ s).to fun ds s => Q (d :: ds) s := by
  show ((m σ s).bind fun d s1 => (mArgs ms σ s1).bind fun ds s2 => .ok (d :: ds) s2).to Q = _
  rw [to_bind]; congr; funext d s1; rw [to_bind]; rfl
@[simp] theorem w_pairs0 {Q : List (Dv × Dv) → Mst → Prop} : (mPairs [] σ s).to Q = Q [] s := id rfl
@[simp] theorem w_pairsS {Q : List (Dv × Dv) → Mst → Prop} (k v : ME) (r : List (ME × ME)) : (mPairs ((k, v) :: r) σ s).to Q = (k σ s).to fun a s => (v σ s).to fun b s => (mPairs r σ s).to fun l s => Q ((a, b) :: l) s := by
  show ((k σ s).bind fun a s1 => (v σ s1).bind fun b s2 => (mPairs r σ s2).bind fun l s3 => .ok ((a, b) :: l) s3).to Q = _
  rw [to_bind]; congr; funext d s1; rw [to_bind]; congr; funext b s2; rw [to_bind]; rfl
@[simp] theorem w_poN {Q : Option Int → Mst → Prop} : (poN σ s).to Q = Q none s := id rfl
@[simp] theorem w_poS {Q : Option Int → Mst → Prop} (m : ME) : (poS m σ s).to Q = (m σ s).to fun d s => d.toI fun i => Q (some i) s := by
  unfold poS; rw [to_bind]; congr; funext d s1; cases d <;> rfl
/-! tests -/
section
variable {Q : Bool → Mst → Prop}
@[simp] theorem w_tval (m : ME) : (mtVal m σ s).to Q = (m σ s).to fun d s => d.toB fun c => Q c s := by
  unfold mtVal; rw [to_bind]; congr; funext d s1; cases d <;> rfl
@[simp] theorem w_tand (a b : MT) : (mtAnd a b σ s).to Q = (a σ s).to fun c s => if c = true then (b σ s).to Q else Q false s := by
  unfold mtAnd; rw [to_bind]; congr; funext c s1; cases c <;> rfl
@[simp] theorem w_tor (a b : MT) : (mtOr a b σ s).to Q = (a σ s).to fun c s => if c = true then Q true s else (b σ s).to Q := by
  unfold mtOr; rw [to_bind]; congr; funext c s1; cases c <;> rfl
@[simp] theorem w_tnot (a : MT) : (mtNot a σ s).to Q = (a σ s).to fun c s => Q (!c) s := to_bind _ _ _
@[simp] theorem w_tyes : (mtYes σ s).to Q = Q true s := id rfl
end
/-! what is walked; targets -/
section
variable {Q : Mit → Mst → Prop}
@[simp] theorem w_iseq (m : ME) : (miSeq m σ s).to Q = (m σ s).to fun d s => (itSeq d s).to Q := to_bind _ _ _
@[simp] theorem w_irng1 (m : ME) : (miRng1 m σ s).to Q = (m σ s).to fun d s => d.toI fun j => (-(2 ^ 62) ≤ j ∧ j < 2 ^ 62) ∧ Q ⟨rngI 0 j.toNat, []⟩ s := by
  unfold miRng1; rw [to_bind]; congr; funext d s1
  cases d with
  | int j =>
    simp only [toI_int]
    by_cases h : -(2 ^ 62) ≤ j ∧ j < 2 ^ 62
    · rw [if_pos h]; simp only [h, true_and, and_self, to_ok]
    · rw [if_neg h]; simp only [to_bad, false_iff, eq_iff_iff]; exact fun z => h z.1
  | _ => rfl
@[simp] theorem w_irng2 (m1 m2 : ME) : (miRng2 m1 m2 σ s).to Q = (m1 σ s).to fun d s => (m2 σ s).to fun e s => d.toI fun i => e.toI fun j => (-(2 ^ 62) ≤ i ∧ i < 2 ^ 62 ∧ -(2 ^ 62) ≤ j ∧ j < 2 ^ 62) ∧ Q ⟨rngI i (j - i).toNat, []⟩ s := by
  unfold miRng2; rw [to_bind]; congr; funext d s1; rw [to_bind]; congr; funext e s2
  cases d with
  | int i =>
    cases e with
    | int j =>
      simp only [toI_int]
      by_cases h : -(2 ^ 62) ≤ i ∧ i < 2 ^ 62 ∧ -(2 ^ 62) ≤ j ∧ j < 2 ^ 62
      · rw [if_pos h]; simp only [h, true_and, and_self, to_ok]
      · rw [if_neg h]; simp only [to_bad, false_iff, eq_iff_iff]; exact fun z => h z.1
    | _ => rfl
  | _ => rfl
@[simp] theorem w_izip (m1 m2 : ME) : (miZip m1 m2 σ s).to Q = (m1 σ s).to fun d s => (m2 σ s).to fun e s => ∃ b l r m q, zipQ d s = some (b, l, r) ∧ zipQ e s = some (b, m, q) ∧ Q ⟨List.zipWith (fun x y => .ptup [x, y]) l m, r ++ q⟩ s := by
  unfold miZip; rw [to_bind]; congr; funext d s1; rw [to_bind]; congr; funext e s2
  cases zipQ d s2 with
  | none => simp
  | some x =>
    cases zipQ e s2 with
    | none => simp
    | some y =>
      obtain ⟨b, l, r⟩ := x
      obtain ⟨c, m, q⟩ := y
      simp only
      by_cases h : b = c
      · subst h
        rw [if_pos rfl, to_ok, eq_iff_iff]
        exact ⟨fun z => ⟨b, l, r, m, q, rfl, rfl, z⟩, fun ⟨b', l', r', m', q', e1, e2, z⟩ => by cases e1; cases e2; exact z⟩
      · rw [if_neg h, to_bad, eq_iff_iff]
        exact ⟨fun z => z.elim, fun ⟨b', l', r', m', q', e1, e2, z⟩ => h (by cases e1; cases e2; rfl)⟩
@[simp] theorem w_ienum (m : ME) : (miEnum m σ s).to Q = (m σ s).to fun d s => ∃ c l r, zipQ d s = some (c, l, r) ∧ Q ⟨(l.zipIdx).map fun p => .ptup [.int p.2, p.1], r⟩ s := by
  unfold miEnum; rw [to_bind]; congr; funext d s1
  cases zipQ d s1 with
  | none => simp
  | some x =>
    obtain ⟨b, l, r⟩ := x
    rw [eq_iff_iff]
    exact ⟨fun z => ⟨b, l, r, rfl, z⟩, fun ⟨b', l', r', e, z⟩ => by cases e; exact z⟩
end
@[simp] theorem w_gN {Q : Men → Mst → Prop} (i : Nat) (d : Dv) : (gN i d σ s).to Q = Q (σ.set i (some d)) s := id rfl
@[simp] theorem w_gT {Q : Men → Mst → Prop} (gs : List MG) (l : List Dv) : (gT gs (.tup l) σ s).to Q = (l.length = gs.length ∧ (gEach gs l σ s).to Q) := by
  unfold gT
  simp only
  by_cases h : l.length = gs.length
  · rw [if_pos h, to_noEr]; simp [h]
  · rw [if_neg h]; simp [h]
@[simp] theorem w_gTp {Q : Men → Mst → Prop} (gs : List MG) (l : List Dv) : (gT gs (.ptup l) σ s).to Q = (l.length = gs.length ∧ (gEach gs l σ s).to Q) := by
  unfold gT
  simp only
  by_cases h : l.length = gs.length
  · rw [if_pos h, to_noEr]; simp [h]
  · rw [if_neg h]; simp [h]
@[simp] theorem w_chain (f g : Dv → Dv → Mst → Rm Dv) (a b c : ME) {Q : Dv → Mst → Prop} : (mChain f g a b c σ s).to Q = (a σ s).to fun x s => (b σ s).to fun y s => (f x y s).to fun z s => z.toB fun d => if d = true then (c σ s).to (fun w s => (g y w s).to Q) else Q (.bl false) s := by
  unfold mChain; rw [to_bind]; congr; funext x s1; rw [to_bind]; congr; funext y s2; rw [to_bind]; congr; funext z s3
  cases z with
  | bl d =>
    cases d with
    | true => simp only [toB_bl, if_true]; rw [to_bind]
    | false => simp only [toB_bl, Bool.false_eq_true, if_false]; rfl
  | _ => rfl
@[simp] theorem w_gE0 {Q : Men → Mst → Prop} : (gEach [] [] σ s).to Q = Q σ s := id rfl
@[simp] theorem w_gES {Q : Men → Mst → Prop} (g : MG) (gs : List MG) (d : Dv) (ds : List Dv) : (gEach (g :: gs) (d :: ds) σ s).to Q = (g d σ s).to fun σ s => (gEach gs ds σ s).to Q := to_bind _ _ _
@[simp] theorem wipe0 : mWipe σ [] = σ := id rfl
@[simp] theorem wipeS (i : Nat) (r : List Nat) : mWipe σ (i :: r) = (mWipe σ r).set i none := id rfl
/-! a def -/
theorem w_fun {k n : Nat} {b : MS} {ds : List Dv} {Q : Dv → Mst → Prop} (hl : ds.length = k) : (mFun k n b ds s).to Q = (b (mStart n ds) s).to (fun _ s => Q .non s) Q (fun _ _ => False) (fun _ _ => False) := by
  unfold mFun
  rw [if_pos hl]
  cases b (mStart n ds) s <;> rfl
end
theorem fun_to {k n : Nat} {b : MS} {ds : List Dv} {s : Mst} {Q : Dv → Mst → Prop} (hl : ds.length = k) (h : (b (mStart n ds) s).to (fun _ s => Q .non s) Q (fun _ _ => False) (fun _ _ => False)) : (mFun k n b ds s).to Q := by
  rw [w_fun hl]; exact h
theorem fun_at {k n : Nat} {b : MS} {ds : List Dv} {s : Mst} {Q : Dv → Mst → Prop} (σ : Men) (hl : ds.length = k) (e : mStart n ds = σ) (h : (b σ s).to (fun _ s => Q .non s) Q (fun _ _ => False) (fun _ _ => False)) : (mFun k n b ds s).to Q := by
  subst e; exact fun_to hl h
/-! ### loops -/
section
variable {N : Men → Mst → Prop} {R : Dv → Mst → Prop} {C B : Men → Mst → Prop} {σ : Men} {s : Mst}
/-- a for: I by the number of items gone through -/
theorem for_by {src : List (Nat × List Dv)} {g : MG} {b : MS} {xs : List Dv} (I : Nat → Men → Mst → Prop) (h0 : I 0 σ s) (hst : ∀ i σ s, I i σ s → Mit.stays src s)
    (step : ∀ i x σ s, xs[i]? = some x → I i σ s → (g x σ s).to fun σ s => (b σ s).to (I (i + 1)) R (I (i + 1)) N) (fin : ∀ σ s, I xs.length σ s → N σ s) : (forF src g b xs σ s).to N R C B := by
  have key : ∀ (r : List Dv) (i : Nat) σ s, xs.drop i = r → i ≤ xs.length → I i σ s → (forF src g b r σ s).to N R C B := by
    intro r
    induction r with
    | nil =>
      intro i σ s hd hi h
      unfold forF
      rw [if_pos (hst i σ s h), to_nx]
      have : i = xs.length := Nat.le_antisymm hi (List.drop_eq_nil_iff.mp hd)
      subst this
      exact fin σ s h
    | cons x r ih =>
      intro i σ s hd hi h
      have h1 : xs[i]? = some x := by
        have : xs[i]? = (xs.drop i)[0]? := by simp
        rw [this, hd]; rfl
      have h2 : xs.drop (i + 1) = r := by
        have : xs.drop (i + 1) = (xs.drop i).drop 1 := by rw [List.drop_drop]
        rw [this, hd]; rfl
      have h3 : i < xs.length := (List.getElem?_eq_some_iff.mp h1).1
      unfold forF
      rw [if_pos (hst i σ s h), to_st]
      refine to_mono (step i x σ s h1 h) fun σ1 s1 h4 => ?_
      rw [to_turn]
      exact sto_mono h4 (fun σ2 s2 h5 => ih (i + 1) σ2 s2 h2 h3 h5) (fun _ _ z => z) (fun σ2 s2 h5 => ih (i + 1) σ2 s2 h2 h3 h5) (fun _ _ z => z)
  exact key xs 0 σ s rfl (Nat.zero_le _) h0
/-- a while: I, and a measure that falls -/
theorem while_by {t : MT} {b : MS} (I : Men → Mst → Prop) (μ : Men → Mst → Nat) (h0 : I σ s)
    (step : ∀ σ s, I σ s → (t σ s).to fun c s1 => if c = true then (b σ s1).to (fun σ2 s2 => I σ2 s2 ∧ μ σ2 s2 < μ σ s) R (fun σ2 s2 => I σ2 s2 ∧ μ σ2 s2 < μ σ s) N else N σ s1) : (msWhile t b σ s).to N R C B := by
  have key : ∀ (n : Nat) σ s, μ σ s < n → I σ s → (whileF t b n σ s).to N R C B := by
    intro n
    induction n with
    | zero => intro σ s h _; exact absurd h (Nat.not_lt_zero _)
    | succ n ih =>
      intro σ s h hI
      show ((t σ s).st σ fun c s1 => if c then (b σ s1).turn (whileF t b n) else .nx σ s1).to N R C B
      rw [to_st]
      refine to_mono (step σ s hI) fun c s1 h1 => ?_
      cases c with
      | false => simpa using h1
      | true =>
        simp only [if_true] at h1 ⊢
        rw [to_turn]
        exact sto_mono h1 (fun σ2 s2 ⟨a, b⟩ => ih σ2 s2 (by omega) a) (fun _ _ z => z) (fun σ2 s2 ⟨a, b⟩ => ih σ2 s2 (by omega) a) (fun _ _ z => z)
  have h := key (μ σ s + 1) σ s (Nat.lt_succ_self _) h0
  have e : msWhile t b σ s = whileF t b (μ σ s + 1) σ s := msWhile_of fun z => by rw [z] at h; exact h
  rw [e]
  exact h
/-- a while: I by a measure -/
theorem while_m {t : MT} {b : MS} (I : Nat → Men → Mst → Prop) (h0 : ∃ m, I m σ s)
    (step : ∀ m σ s, I m σ s → (t σ s).to fun c s1 => if c = true then (b σ s1).to (fun σ2 s2 => ∃ m', m' < m ∧ I m' σ2 s2) R (fun σ2 s2 => ∃ m', m' < m ∧ I m' σ2 s2) N else N σ s1) : (msWhile t b σ s).to N R C B := by
  have key : ∀ (n : Nat) m σ s, m < n → I m σ s → (whileF t b n σ s).to N R C B := by
    intro n
    induction n with
    | zero => intro m σ s h _; exact absurd h (Nat.not_lt_zero _)
    | succ n ih =>
      intro m σ s h hI
      show ((t σ s).st σ fun c s1 => if c then (b σ s1).turn (whileF t b n) else .nx σ s1).to N R C B
      rw [to_st]
      refine to_mono (step m σ s hI) fun c s1 h1 => ?_
      cases c with
      | false => simpa using h1
      | true =>
        simp only [if_true] at h1 ⊢
        rw [to_turn]
        exact sto_mono h1 (fun σ2 s2 ⟨m', a, b⟩ => ih m' σ2 s2 (by omega) b) (fun _ _ z => z) (fun σ2 s2 ⟨m', a, b⟩ => ih m' σ2 s2 (by omega) b) (fun _ _ z => z)
  obtain ⟨m, hm⟩ := h0
  have h := key (m + 1) m σ s (Nat.lt_succ_self _) hm
  have e : msWhile t b σ s = whileF t b (m + 1) σ s := msWhile_of fun z => by rw [z] at h; exact h
  rw [e]
  exact h
/-- a comprehension: I by the number of items and what is made -/
theorem lc_by {src : List (Nat × List Dv)} {g : MG} {t : MT} {e : ME} {xs : List Dv} {Q : List Dv → Mst → Prop} (I : Nat → List Dv → Mst → Prop) (h0 : I 0 [] s) (hst : ∀ i ds s, I i ds s → Mit.stays src s)
    (step : ∀ i x ds s, xs[i]? = some x → I i ds s → (g x σ s).to fun σ1 s => (t σ1 s).to fun c s => if c = true then (e σ1 s).to fun d s => I (i + 1) (ds ++ [d]) s else I (i + 1) ds s) (fin : ∀ ds s, I xs.length ds s → Q ds s) : (lcF src g t e σ xs s).to Q := by
  have key : ∀ (r : List Dv) (i : Nat) ds s, xs.drop i = r → i ≤ xs.length → I i ds s → (lcF src g t e σ r s).to fun es s => Q (ds ++ es) s := by
    intro r
    induction r with
    | nil =>
      intro i ds s hd hi h
      unfold lcF
      rw [if_pos (hst i ds s h), to_ok, List.append_nil]
      have : i = xs.length := Nat.le_antisymm hi (List.drop_eq_nil_iff.mp hd)
      subst this
      exact fin ds s h
    | cons x r ih =>
      intro i ds s hd hi h
      have h1 : xs[i]? = some x := by
        have : xs[i]? = (xs.drop i)[0]? := by simp
        rw [this, hd]; rfl
      have h2 : xs.drop (i + 1) = r := by
        have : xs.drop (i + 1) = (xs.drop i).drop 1 := by rw [List.drop_drop]
        rw [this, hd]; rfl
      have h3 : i < xs.length := (List.getElem?_eq_some_iff.mp h1).1
      unfold lcF
      rw [if_pos (hst i ds s h), to_bind]
      refine to_mono (step i x ds s h1 h) fun σ1 s1 h4 => ?_
      rw [to_bind]
      refine to_mono h4 fun c s2 h5 => ?_
      cases c with
      | false =>
        simp only [Bool.false_eq_true, if_false] at h5 ⊢
        exact ih (i + 1) ds s2 h2 h3 h5
      | true =>
        simp only [if_true] at h5 ⊢
        rw [to_bind]
        refine to_mono h5 fun d s3 h6 => ?_
        rw [to_bind]
        refine to_mono (ih (i + 1) (ds ++ [d]) s3 h2 h3 h6) fun es s4 h7 => ?_
        simpa using h7
  simpa using key xs 0 [] s rfl (Nat.zero_le _) h0
end
end
end Mid
/-! MidV: what changes and what stays; operators at known values; data. -/
namespace Mid
open PySem
noncomputable section
/-! ### the list of changing things -/
/-- all but what stands at X stays -/
def Fr (X : List Nat) (s s' : Mst) : Prop := s.length ≤ s'.length ∧ ∀ n, n ∉ X → n < s.length → s'[n]? = s[n]?
section
variable {X Y : List Nat} {s s' s'' t : Mst} {n m : Nat} {o o' : MO}
theorem Fr.refl : Fr X s s := ⟨Nat.le_refl _, fun _ _ _ => rfl⟩
theorem Fr.trans (a : Fr X s s') (b : Fr X s' s'') : Fr X s s'' := ⟨Nat.le_trans a.1 b.1, fun n h l => (b.2 n h (Nat.lt_of_lt_of_le l a.1)).trans (a.2 n h l)⟩
theorem Fr.mono (a : Fr X s s') (h : ∀ n ∈ X, n ∈ Y ∨ s.length ≤ n) : Fr Y s s' := ⟨a.1, fun n hn l => a.2 n (fun z => by
  rcases h n z with q | q
  · exact hn q
  · omega) l⟩
theorem Fr.trans2 (a : Fr X s s') (b : Fr Y s' s'') (h : ∀ n ∈ Y, n ∈ X ∨ s.length ≤ n) : Fr X s s'' := ⟨Nat.le_trans a.1 b.1, fun n hn l => (b.2 n (fun z => by
  rcases h n z with q | q
  · exact hn q
  · omega) (Nat.lt_of_lt_of_le l a.1)).trans (a.2 n hn l)⟩
theorem Fr.app : Fr X s (s ++ t) := ⟨by simp, fun n _ l => List.getElem?_append_left l⟩
theorem Fr.put (a : Fr X s s') (h : n ∈ X ∨ s.length ≤ n) : Fr X s (s'.set n o) := ⟨by simpa using a.1, fun m hm l => by
  rw [List.getElem?_set_ne (fun e => by
    subst e
    rcases h with q | q
    · exact hm q
    · omega)]
  exact a.2 m hm l⟩
theorem Fr.get (a : Fr X s s') (h : s[n]? = some o) (hn : n ∉ X) : s'[n]? = some o := by
  rw [a.2 n hn (List.getElem?_eq_some_iff.mp h).1]; exact h
theorem lt_of (h : s[n]? = some o) : n < s.length := (List.getElem?_eq_some_iff.mp h).1
theorem look_app (h : s[n]? = some o) : (s ++ t)[n]? = some o := by rw [List.getElem?_append_left (lt_of h)]; exact h
theorem look_put (h : s[n]? = some o) : (s.set n o')[n]? = some o' := List.getElem?_set_self (lt_of h)
theorem look_ne (h : s[n]? = some o) (e : m ≠ n) : (s.set m o')[n]? = some o := by rw [List.getElem?_set_ne e]; exact h
@[simp] theorem look_new0 : (s ++ t)[s.length]? = t[0]? := by rw [List.getElem?_append_right (Nat.le_refl _), Nat.sub_self]
@[simp] theorem look_newS (k : Nat) : (s ++ t)[s.length + k]? = t[k]? := by rw [List.getElem?_append_right (Nat.le_add_right _ _), Nat.add_sub_cancel_left]
@[simp] theorem set_new0 : (s ++ t).set s.length o = s ++ t.set 0 o := by rw [List.set_append_right _ _ (Nat.le_refl _), Nat.sub_self]
@[simp] theorem set_newS (k : Nat) : (s ++ t).set (s.length + k) o = s ++ t.set k o := by rw [List.set_append_right _ _ (Nat.le_add_right _ _), Nat.add_sub_cancel_left]
theorem ne_len (h : s[n]? = some o) : n ≠ s.length := Nat.ne_of_lt (lt_of h)
theorem stays_nil : Mit.stays [] s := trivial
end
/-! ### operators at known values -/
section
variable {s : Mst} {i j : Int} {x y : Str} {l m : List Dv} {d e : Dv} {n k : Nat}
@[simp] theorem oAdd_int : oAdd (.int i) (.int j) s = .ok (.int (i + j)) s := id rfl
theorem oAdd_str (h : x.length + y.length ≤ 2 ^ 24) : oAdd (.str x) (.str y) s = .ok (.str (x ++ y)) s := if_pos h
theorem oAdd_tup (h : l.length + m.length ≤ 2 ^ 24) : oAdd (.tup l) (.tup m) s = .ok (.tup (l ++ m)) s := if_pos h
theorem oAdd_lst (h1 : s[n]? = some (.lst l)) (h2 : s[k]? = some (.lst m)) (h : l.length + m.length ≤ 2 ^ 24) : oAdd (.loc n) (.loc k) s = .ok (.loc s.length) (s ++ [.lst (l ++ m)]) := by
  unfold oAdd; simp only; rw [h1, h2]; exact if_pos h
@[simp] theorem oSub_int : oSub (.int i) (.int j) s = .ok (.int (i - j)) s := id rfl
theorem oMod_int (h : 0 < j) : oMod (.int i) (.int j) s = .ok (.int (i % j)) s := by unfold oMod oII; simp only; rw [if_pos h]; rfl
theorem oFdiv_int (h : 0 < j) (h2 : j.natAbs.log2 < 9000) : oFdiv (.int i) (.int j) s = .ok (.int (i / j)) s := by unfold oFdiv oII; simp only; rw [if_pos ⟨h, h2⟩]; rfl
theorem oPow_int (h : 0 ≤ j ∧ j ≤ 1000000 ∧ i.natAbs < 2 ^ 64) : oPow (.int i) (.int j) s = .ok (.int (i ^ j.toNat)) s := by unfold oPow oII; simp only; rw [if_pos h]; rfl
theorem oMul_int (h : i.natAbs.log2 + j.natAbs.log2 < 1000000) : oMul (.int i) (.int j) s = .ok (.int (i * j)) s := if_pos h
@[simp] theorem oLt_int : oLt (.int i) (.int j) s = .ok (.bl (decide (i < j))) s := id rfl
@[simp] theorem oLe_int : oLe (.int i) (.int j) s = .ok (.bl (decide (i ≤ j))) s := id rfl
@[simp] theorem oGt_int : oGt (.int i) (.int j) s = .ok (.bl (decide (j < i))) s := id rfl
@[simp] theorem oGe_int : oGe (.int i) (.int j) s = .ok (.bl (decide (j ≤ i))) s := id rfl
@[simp] theorem uNeg_int : uNeg (.int i) s = .ok (.int (-i)) s := id rfl
@[simp] theorem oIsN_non : oIsN d .non s = .ok (.bl (isNonQ d)) s := id rfl
@[simp] theorem oNotN_non : oNotN d .non s = .ok (.bl (!isNonQ d)) s := id rfl
@[simp] theorem isNonQ_tup : isNonQ (.tup l) = false := id rfl
@[simp] theorem isNonQ_non : isNonQ .non = true := id rfl
@[simp] theorem isNonQ_int : isNonQ (.int i) = false := id rfl
@[simp] theorem isNonQ_bl (b : Bool) : isNonQ (.bl b) = false := id rfl
@[simp] theorem isNonQ_str : isNonQ (.str x) = false := id rfl
@[simp] theorem isNonQ_loc : isNonQ (.loc n) = false := id rfl
/-! scalars compared -/
theorem shaped_int : SeqAt.shaped (.int i) = true := by simp [SeqAt.shaped, PyData.canLay0, PyData.depth]
theorem shaped_bool (b : Bool) : SeqAt.shaped (.bool b) = true := by simp [SeqAt.shaped, PyData.canLay0, PyData.depth]
theorem shaped_none : SeqAt.shaped .none = true := by simp [SeqAt.shaped, PyData.canLay0, PyData.depth]
@[simp] theorem oEq_int : oEq (.int i) (.int j) s = .ok (.bl (decide (i = j))) s := by
  unfold oEq oCmpD
  simp only [dat, shaped_int, and_self, if_true, PyData.eqv]
  rw [Bool.beq_eq_decide_eq]
@[simp] theorem oNe_int : oNe (.int i) (.int j) s = .ok (.bl (!decide (i = j))) s := by
  unfold oNe oCmpD
  simp only [dat, shaped_int, and_self, if_true, PyData.eqv]
  rw [Bool.beq_eq_decide_eq]
@[simp] theorem oEq_bl (b c : Bool) : oEq (.bl b) (.bl c) s = .ok (.bl (b == c)) s := by
  unfold oEq oCmpD
  simp only [dat, shaped_bool, and_self, if_true, PyData.eqv]
@[simp] theorem oNe_bl (b c : Bool) : oNe (.bl b) (.bl c) s = .ok (.bl (!(b == c))) s := by
  unfold oNe oCmpD
  simp only [dat, shaped_bool, and_self, if_true, PyData.eqv]
/-! places -/
theorem ixQ_nat {a b : Nat} (h : b < a) : ixQ a (b : Int) = some b := by
  unfold ixQ; rw [if_pos (by omega), if_pos (by omega)]; simp
theorem atQ_nat {α : Type} {xs : List α} {b : Nat} {z : α} (h : xs[b]? = some z) : atQ xs (b : Int) = some z := by
  unfold atQ; rw [ixQ_nat (List.getElem?_eq_some_iff.mp h).1]; exact h
theorem ixQ_last {a : Nat} (h : 0 < a) : ixQ a (-1) = some (a - 1) := by
  unfold ixQ; rw [if_neg (by omega), if_pos (by omega)]; congr 1; omega
theorem atQ_last {α : Type} {xs : List α} {z : α} (h : xs[xs.length - 1]? = some z) : atQ xs (-1) = some z := by
  unfold atQ; rw [ixQ_last (by have := (List.getElem?_eq_some_iff.mp h).1; omega)]; exact h
theorem getQ_seq (h : seqOf d s = some l) : getQ d (.int i) s = atQ l i := by
  unfold seqOf at h
  unfold getQ
  cases d with
  | tup m => cases h; rfl
  | clst m => cases h; rfl
  | loc n =>
    simp only at h ⊢
    cases q : s[n]? with
    | none => rw [q] at h; cases h
    | some o =>
      rw [q] at h
      cases o with
      | lst m => cases h; rfl
      | _ => cases h
  | _ => cases h
theorem oGet_seq (h : seqOf d s = some l) {b : Nat} {z : Dv} (hz : l[b]? = some z) : oGet d (.int (b : Int)) s = .ok z s := by
  unfold oGet; rw [getQ_seq h, atQ_nat hz]; rfl
theorem oGet_lst (h : s[n]? = some (.lst l)) {b : Nat} {z : Dv} (hz : l[b]? = some z) : oGet (.loc n) (.int (b : Int)) s = .ok z s :=
  oGet_seq (by unfold seqOf; simp only; rw [h]) hz
theorem oGet_tup {b : Nat} {z : Dv} (hz : l[b]? = some z) : oGet (.tup l) (.int (b : Int)) s = .ok z s := oGet_seq rfl hz
theorem oGet_last (h : seqOf d s = some l) {z : Dv} (hz : l[l.length - 1]? = some z) : oGet d (.int (-1)) s = .ok z s := by
  unfold oGet; rw [getQ_seq h, atQ_last hz]; rfl
@[simp] theorem oGet_tup0 : oGet (.tup (d :: l)) (.int 0) s = .ok d s := oGet_tup (b := 0) rfl
@[simp] theorem oGet_tup1 : oGet (.tup (d :: e :: l)) (.int 1) s = .ok e s := oGet_tup (b := 1) rfl
theorem seqOf_lst (h : s[n]? = some (.lst l)) : seqOf (.loc n) s = some l := by unfold seqOf; simp only; rw [h]
@[simp] theorem seqOf_tup : seqOf (.tup l) s = some l := id rfl
theorem lenQ_seq (h : seqOf d s = some l) : lenQ d s = some l.length := by
  unfold seqOf at h
  unfold lenQ
  cases d with
  | tup m => cases h; rfl
  | clst m => cases h; rfl
  | loc n =>
    simp only at h ⊢
    cases q : s[n]? with
    | none => rw [q] at h; cases h
    | some o =>
      rw [q] at h
      cases o with
      | lst m => cases h; rfl
      | _ => cases h
  | _ => cases h
theorem bLen_seq (h : seqOf d s = some l) : bLen [d] s = .ok (.int l.length) s := by
  show ofO ((lenQ d s).map fun n => Dv.int n) s = _; rw [lenQ_seq h]; rfl
theorem bTuple_seq (h : seqOf d s = some l) : bTuple [d] s = .ok (.tup l) s := by
  show ofO ((seqOf d s).map Dv.tup) s = _; rw [h]; rfl
theorem bList_seq (h : seqOf d s = some l) : bList [d] s = .ok (.loc s.length) (s ++ [.lst l]) := by
  show (match seqOf d s with | some l => mNew (.lst l) s | none => .bad) = _; rw [h]; rfl
theorem lstQ_loc (h : s[n]? = some (.lst l)) : bAny.lstQ (.loc n) s = some l := by unfold bAny.lstQ; simp only; rw [h]
theorem blsQ_map (bs : List Bool) : blsQ (bs.map .bl) = some bs := by
  induction bs with
  | nil => rfl
  | cons b r ih => show (blsQ (r.map .bl)).map (b :: ·) = _; rw [ih]; rfl
theorem bAny_lst {bs : List Bool} (h : s[n]? = some (.lst (bs.map .bl))) : bAny [.loc n] s = .ok (.bl (bs.any id)) s := by
  show ofO (((bAny.lstQ (.loc n) s).bind blsQ).map fun bs => Dv.bl (bs.any id)) s = _
  rw [lstQ_loc h, Option.bind_some, blsQ_map]; rfl
theorem bAll_lst {bs : List Bool} (h : s[n]? = some (.lst (bs.map .bl))) : bAll [.loc n] s = .ok (.bl (bs.all id)) s := by
  show ofO (((bAny.lstQ (.loc n) s).bind blsQ).map fun bs => Dv.bl (bs.all id)) s = _
  rw [lstQ_loc h, Option.bind_some, blsQ_map]; rfl
theorem intsQ_map (ns : List Int) : intsQ (ns.map .int) = some ns := by
  induction ns with
  | nil => rfl
  | cons b r ih => show (intsQ (r.map .int)).map (b :: ·) = _; rw [ih]; rfl
theorem strsQ_map (ns : List Str) : strsQ (ns.map .str) = some ns := by
  induction ns with
  | nil => rfl
  | cons b r ih => show (strsQ (r.map .str)).map (b :: ·) = _; rw [ih]; rfl
theorem bSorted_ints {ns : List Int} (h : s[n]? = some (.lst (ns.map .int))) : bSorted [.loc n] s = .ok (.loc s.length) (s ++ [.lst ((srtI ns).map .int)]) := by
  show (match bAny.lstQ (.loc n) s with | some l => _ | none => _) = _
  rw [lstQ_loc h]
  simp only [srtQ, intsQ_map]
  rfl
theorem bSorted_strs {ns : List Str} (h : s[n]? = some (.lst (ns.map .str))) (hl : ns.length < 64) : bSorted [.loc n] s = .ok (.loc s.length) (s ++ [.lst ((srtS ns).map .str)]) := by
  show (match bAny.lstQ (.loc n) s with | some l => _ | none => _) = _
  rw [lstQ_loc h]
  cases ns with
  | nil => rfl
  | cons a r =>
    have e : intsQ ((a :: r).map Dv.str) = none := rfl
    simp only [srtQ, e, strsQ_map, if_pos hl]
    rfl
theorem bSorted_keys {kvs : List (KeyQ × Dv)} {ns : List Int} (h : s[n]? = some (.dK kvs)) (e : kvs.map (·.1) = ns.map Sum.inl) : bSorted [.loc n] s = .ok (.loc s.length) (s ++ [.lst ((srtI ns).map .int)]) := by
  show (match bAny.lstQ (.loc n) s with | some l => _ | none => _) = _
  have e1 : bAny.lstQ (.loc n) s = none := by unfold bAny.lstQ; simp only; rw [h]
  have e2 : (kvs.map fun kv => keyD kv.1) = ns.map .int := by
    have : (kvs.map fun kv => keyD kv.1) = (kvs.map (·.1)).map keyD := by rw [List.map_map]; rfl
    rw [this, e, List.map_map]; rfl
  rw [e1]
  simp only [h, e2, srtQ, intsQ_map]
  rfl
/-! dicts -/
theorem kval_some {α : Type} [DecidableEq α] {kvs : List (α × Dv)} {k : α} : (kval kvs k).isSome = true ↔ k ∈ kvs.map (·.1) := by
  unfold kval
  induction kvs with
  | nil => simp
  | cons a r ih =>
    by_cases h : a.1 = k
    · simp [List.find?_cons, h]
    · have h' : ¬ k = a.1 := fun z => h z.symm
      simp only [List.find?_cons, decide_eq_false h, List.map_cons, List.mem_cons, h', false_or]
      simpa using ih
theorem inQ_dict {kvs : List (KeyQ × Dv)} {q : KeyQ} (h : s[n]? = some (.dK kvs)) (hk : keyQ d = some q) : inQ d (.loc n) s = some (kval kvs q).isSome := by
  unfold inQ
  simp only [h, hk]
theorem oIn_dict {kvs : List (KeyQ × Dv)} {q : KeyQ} (h : s[n]? = some (.dK kvs)) (hk : keyQ d = some q) : oIn d (.loc n) s = .ok (.bl (kval kvs q).isSome) s := by
  unfold oIn; rw [inQ_dict h hk]; rfl
theorem oNotIn_dict {kvs : List (KeyQ × Dv)} {q : KeyQ} (h : s[n]? = some (.dK kvs)) (hk : keyQ d = some q) : oNotIn d (.loc n) s = .ok (.bl (!(kval kvs q).isSome)) s := by
  unfold oNotIn; rw [inQ_dict h hk]; rfl
theorem kput_new {α : Type} [DecidableEq α] {kvs : List (α × Dv)} {k : α} (h : k ∉ kvs.map (·.1)) : kput kvs k d = kvs ++ [(k, d)] := by
  unfold kput
  rw [if_neg]
  intro z
  rw [List.any_eq_true] at z
  obtain ⟨a, ha, hb⟩ := z
  exact h (List.mem_map.mpr ⟨a, ha, of_decide_eq_true hb⟩)
theorem oGet_dict {kvs : List (KeyQ × Dv)} {q : KeyQ} {z : Dv} (h : s[n]? = some (.dK kvs)) (hk : keyQ d = some q) (hz : kval kvs q = some z) : oGet (.loc n) d s = .ok z s := by
  unfold oGet getQ; simp only [h, hk, hz]; rfl
theorem oPut_dict {kvs : List (KeyQ × Dv)} {q : KeyQ} (h : s[n]? = some (.dK kvs)) (hk : keyQ d = some q) (hl : kvs.length < 2 ^ 24) : oPut (.loc n) d e s = .ok () (s.set n (.dK (kput kvs q e))) := by
  unfold oPut putQ; simp only [h, hk, if_pos hl]
theorem oPut_lst (h : s[n]? = some (.lst l)) (hl : k < l.length) : oPut (.loc n) (.int (k : Int)) e s = .ok () (s.set n (.lst (l.set k e))) := by
  unfold oPut putQ; simp only [h, ixQ_nat hl]; rfl
/-! lists -/
theorem tAppend_lst (h : s[n]? = some (.lst l)) (hl : l.length < 2 ^ 24) : tAppend [.loc n, d] s = .ok .non (s.set n (.lst (l ++ [d]))) := by
  unfold tAppend onLst; simp only [h, if_pos hl]
theorem tClear_lst (h : s[n]? = some (.lst l)) : tClear [.loc n] s = .ok .non (s.set n (.lst [])) := by
  unfold tClear onLst; simp only [h]
theorem tPop_lst (h : s[n]? = some (.lst (l ++ [d]))) : tPop [.loc n] s = .ok d (s.set n (.lst l)) := by
  unfold tPop onLst; simp only [h]
  have : (l ++ [d])[(l ++ [d]).length - 1]? = some d := by simp
  rw [this]; simp
theorem tyQ_lst (h : s[n]? = some (.lst l)) : tyQ (.loc n) s = "list" := by unfold tyQ; simp only [h]
theorem tyQ_dict {kvs : List (KeyQ × Dv)} (h : s[n]? = some (.dK kvs)) : tyQ (.loc n) s = "dict" := by unfold tyQ; simp only [h]
@[simp] theorem tyQ_str : tyQ (.str x) s = "str" := id rfl
@[simp] theorem itSeq_tup : itSeq (.tup l) s = .ok ⟨l, []⟩ s := id rfl
@[simp] theorem itSeq_clst : itSeq (.clst l) s = .ok ⟨l, []⟩ s := id rfl
theorem itSeq_lst (h : s[n]? = some (.lst l)) : itSeq (.loc n) s = .ok ⟨l, [(n, l)]⟩ s := by unfold itSeq; simp only [h]
end
end
end Mid
/-! MidD: data of a type: how it stands, how it is compared. -/
namespace Mid
open PySem
noncomputable section
/-! ### two lists, item by item -/
inductive All2 {α β : Type} (R : α → β → Prop) : List α → List β → Prop where
  | nil : All2 R [] []
  | cons {a b l m} : R a b → All2 R l m → All2 R (a :: l) (b :: m)
namespace All2
variable {α β γ : Type} {R S : α → β → Prop} {l l' : List α} {m m' : List β}
theorem len (h : All2 R l m) : l.length = m.length := by induction h with
  | nil => rfl
  | cons _ _ ih => simp [ih]
theorem imp (h : All2 R l m) (f : ∀ a b, a ∈ l → b ∈ m → R a b → S a b) : All2 S l m := by induction h with
  | nil => exact .nil
  | cons a _ ih => exact .cons (f _ _ (by simp) (by simp) a) (ih fun x y hx hy => f x y (by simp [hx]) (by simp [hy]))
theorem app (h : All2 R l m) (g : All2 R l' m') : All2 R (l ++ l') (m ++ m') := by induction h with
  | nil => exact g
  | cons a _ ih => exact .cons a ih
theorem snoc {a : α} {b : β} (h : All2 R l m) (g : R a b) : All2 R (l ++ [a]) (m ++ [b]) := h.app (.cons g .nil)
theorem get (h : All2 R l m) {i : Nat} {a : α} (g : l[i]? = some a) : ∃ b, m[i]? = some b ∧ R a b := by
  induction h generalizing i with
  | nil => cases g
  | cons x _ ih => cases i with
    | zero => cases g; exact ⟨_, rfl, x⟩
    | succ i => exact ih g
theorem get' (h : All2 R l m) {i : Nat} {b : β} (g : m[i]? = some b) : ∃ a, l[i]? = some a ∧ R a b := by
  induction h generalizing i with
  | nil => cases g
  | cons x _ ih => cases i with
    | zero => cases g; exact ⟨_, rfl, x⟩
    | succ i => exact ih g
theorem of_map {f : β → α} (h : ∀ b ∈ m, R (f b) b) : All2 R (m.map f) m := by induction m with
  | nil => exact .nil
  | cons b m ih => exact .cons (h b (by simp)) (ih fun x hx => h x (by simp [hx]))
theorem to_map {f : β → α} (h : All2 R l m) (g : ∀ a b, a ∈ l → b ∈ m → R a b → a = f b) : l = m.map f := by induction h with
  | nil => rfl
  | cons a _ ih => rw [List.map_cons, g _ _ (by simp) (by simp) a, ih fun x y hx hy => g x y (by simp [hx]) (by simp [hy])]
theorem drop (h : All2 R l m) (i : Nat) : All2 R (l.drop i) (m.drop i) := by
  induction h generalizing i with
  | nil => simp; exact .nil
  | cons x y ih => cases i with
    | zero => exact .cons x y
    | succ i => exact ih i
end All2
/-! ### a type's data -/
structure Enc (α : Type) where
  rep : (Nat → Prop) → Mst → Dv → α → Prop
  py : α → PyData
  dep : Nat
  mono : ∀ {P P' s d a}, rep P s d a → (∀ n, P' n → P n ∨ s.length ≤ n) → rep P' s d a
  fr : ∀ {P X s s' d a}, rep P s d a → Fr X s s' → (∀ n ∈ X, P n) → rep P s' d a
  dat : ∀ {P s d a n}, rep P s d a → dep < n → dat s n d = some (py a)
  lay : ∀ {P s d a}, rep P s d a → (py a).canLay0 = true
  depth : ∀ a, (py a).depth ≤ dep
  eqv : ∀ a b, PyData.eqv (py a) (py b) = true ↔ a = b
variable {α β : Type} {P P' : Nat → Prop} {X : List Nat} {s s' : Mst} {d e : Dv}
def noP : Nat → Prop := fun _ => False
theorem Enc.fr0 (A : Enc α) {a : α} (h : A.rep P s d a) (f : Fr [] s s') : A.rep P s' d a := A.fr h f (by simp)
theorem Enc.toNo (A : Enc α) {a : α} (h : A.rep P s d a) : A.rep noP s d a := A.mono h fun _ z => z.elim
def Enc.int : Enc Int where
  rep _ _ d a := d = .int a
  py := .int
  dep := 0
  mono h _ := h
  fr h _ _ := h
  dat h hn := by subst h; cases ‹Nat› with
    | zero => omega
    | succ n => rfl
  lay _ := by simp [PyData.canLay0]
  depth _ := by simp [PyData.depth]
  eqv a b := by simp [PyData.eqv]
def Enc.nat : Enc Nat where
  rep _ _ d a := d = .int a
  py a := .int a
  dep := 0
  mono h _ := h
  fr h _ _ := h
  dat h hn := by subst h; cases ‹Nat› with
    | zero => omega
    | succ n => rfl
  lay _ := by simp [PyData.canLay0]
  depth _ := by simp [PyData.depth]
  eqv a b := by simp [PyData.eqv]; omega
def Enc.bool : Enc Bool where
  rep _ _ d a := d = .bl a
  py a := .bool a
  dep := 0
  mono h _ := h
  fr h _ _ := h
  dat h hn := by subst h; cases ‹Nat› with
    | zero => omega
    | succ n => rfl
  lay _ := by simp [PyData.canLay0]
  depth _ := by simp [PyData.depth]
  eqv a b := by simp [PyData.eqv]
def Enc.str : Enc Str where
  rep _ _ d a := d = .str a ∧ PyData.strOk a = true
  py a := .str a
  dep := 0
  mono h _ := h
  fr h _ _ := h
  dat h hn := by obtain ⟨rfl, _⟩ := h; cases ‹Nat› with
    | zero => omega
    | succ n => rfl
  lay h := by simp [PyData.canLay0, h.2]
  depth _ := by simp [PyData.depth]
  eqv a b := by simp [PyData.eqv]
def Enc.pair (A : Enc α) (B : Enc β) : Enc (α × β) where
  rep P s d a := ∃ x y, d = .tup [x, y] ∧ A.rep P s x a.1 ∧ B.rep P s y a.2
  py a := .tuple [A.py a.1, B.py a.2]
  dep := max A.dep B.dep + 1
  mono h f := by obtain ⟨x, y, rfl, h1, h2⟩ := h; exact ⟨x, y, rfl, A.mono h1 f, B.mono h2 f⟩
  fr h f g := by obtain ⟨x, y, rfl, h1, h2⟩ := h; exact ⟨x, y, rfl, A.fr h1 f g, B.fr h2 f g⟩
  dat h hn := by
    obtain ⟨x, y, rfl, h1, h2⟩ := h
    cases ‹Nat› with
    | zero => omega
    | succ n => simp [Mid.dat, datA, A.dat h1 (n := n) (by omega), B.dat h2 (n := n) (by omega)]
  lay h := by obtain ⟨x, y, rfl, h1, h2⟩ := h; simp [PyData.canLay0, PyData.canLayAll0, A.lay h1, B.lay h2]
  depth a := by
    have := A.depth a.1
    have := B.depth a.2
    simp [PyData.depth, PyData.depthAll]; omega
  eqv a b := by
    simp [PyData.eqv, PyData.eqvAll, A.eqv, B.eqv]
    exact ⟨fun h => Prod.ext h.1 h.2, fun h => by rw [h]; exact ⟨rfl, rfl⟩⟩
theorem datA_all2 {A : Enc α} {ds : List Dv} {l : List α} (h : All2 (A.rep P s) ds l) {n : Nat} (hn : A.dep < n) : datA (Mid.dat s n) ds = some (l.map A.py) := by
  induction h with
  | nil => rfl
  | cons a _ ih => simp [datA, A.dat a hn, ih]
theorem lay_all2 {A : Enc α} {ds : List Dv} {l : List α} (h : All2 (A.rep P s) ds l) : PyData.canLayAll0 (l.map A.py) = true := by
  induction h with
  | nil => simp [PyData.canLayAll0]
  | cons a _ ih => simp [PyData.canLayAll0, A.lay a, ih]
theorem depth_all (A : Enc α) (l : List α) : PyData.depthAll (l.map A.py) ≤ A.dep := by
  induction l with
  | nil => simp [PyData.depthAll]
  | cons a l ih => have := A.depth a; simp [PyData.depthAll]; omega
theorem eqv_all (A : Enc α) (l m : List α) : PyData.eqvAll (l.map A.py) (m.map A.py) = true ↔ l = m := by
  induction l generalizing m with
  | nil => cases m <;> simp [PyData.eqvAll]
  | cons a l ih => cases m with
    | nil => simp [PyData.eqvAll]
    | cons b m => simp [PyData.eqvAll, A.eqv, ih]
def Enc.tupOf (A : Enc α) : Enc (List α) where
  rep P s d a := ∃ ds, d = .tup ds ∧ All2 (A.rep P s) ds a
  py a := .tuple (a.map A.py)
  dep := A.dep + 1
  mono h f := by obtain ⟨ds, rfl, h⟩ := h; exact ⟨ds, rfl, h.imp fun _ _ _ _ z => A.mono z f⟩
  fr h f g := by obtain ⟨ds, rfl, h⟩ := h; exact ⟨ds, rfl, h.imp fun _ _ _ _ z => A.fr z f g⟩
  dat h hn := by
    obtain ⟨ds, rfl, h⟩ := h
    cases ‹Nat› with
    | zero => omega
    | succ n => simp [Mid.dat, datA_all2 h (n := n) (by omega)]
  lay h := by obtain ⟨ds, rfl, h⟩ := h; simp [PyData.canLay0, lay_all2 h]
  depth a := by have := depth_all A a; simp [PyData.depth]; omega
  eqv a b := by simp only [PyData.eqv]; exact eqv_all A a b
def Enc.lstOf (A : Enc α) : Enc (List α) where
  rep P s d a := ∃ n ds, d = .loc n ∧ ¬ P n ∧ s[n]? = some (.lst ds) ∧ All2 (A.rep P s) ds a
  py a := .list (a.map A.py)
  dep := A.dep + 1
  mono h f := by
    obtain ⟨n, ds, rfl, hp, hs, h⟩ := h
    refine ⟨n, ds, rfl, fun z => ?_, hs, h.imp fun _ _ _ _ z => A.mono z f⟩
    rcases f n z with q | q
    · exact hp q
    · have := lt_of hs; omega
  fr h f g := by
    obtain ⟨n, ds, rfl, hp, hs, h⟩ := h
    exact ⟨n, ds, rfl, hp, f.get hs fun z => hp (g n z), h.imp fun _ _ _ _ z => A.fr z f g⟩
  dat h hn := by
    obtain ⟨k, ds, rfl, hp, hs, h⟩ := h
    rename_i n'
    cases n' with
    | zero => omega
    | succ n => simp [Mid.dat, hs, datA_all2 h (n := n) (by omega)]
  lay h := by obtain ⟨n, ds, rfl, hp, hs, h⟩ := h; simp [PyData.canLay0, lay_all2 h]
  depth a := by have := depth_all A a; simp [PyData.depth]; omega
  eqv a b := by simp only [PyData.eqv]; exact eqv_all A a b
/-! ### compared -/
theorem Enc.shaped (A : Enc α) {a : α} (h : A.rep P s d a) (hd : A.dep ≤ 64) : SeqAt.shaped (A.py a) = true := by
  have := A.depth a
  simp only [SeqAt.shaped, A.lay h, Bool.true_and, decide_eq_true_iff]; omega
theorem oEq_enc [DecidableEq α] (A : Enc α) {a b : α} (h : A.rep P s d a) (g : A.rep P' s e b) (hd : A.dep ≤ 64) : oEq d e s = .ok (.bl (decide (a = b))) s := by
  unfold oEq oCmpD
  rw [A.dat h (by omega), A.dat g (by omega)]
  simp only [A.shaped h hd, A.shaped g hd, and_self, if_true]
  congr 2
  rw [Bool.eq_iff_iff, A.eqv, decide_eq_true_iff]
theorem oNe_enc [DecidableEq α] (A : Enc α) {a b : α} (h : A.rep P s d a) (g : A.rep P' s e b) (hd : A.dep ≤ 64) : oNe d e s = .ok (.bl (!decide (a = b))) s := by
  unfold oNe oCmpD
  rw [A.dat h (by omega), A.dat g (by omega)]
  simp only [A.shaped h hd, A.shaped g hd, and_self, if_true]
  congr 3
  rw [Bool.eq_iff_iff, A.eqv, decide_eq_true_iff]
theorem inQ_enc [DecidableEq α] (A : Enc α) {a : α} {l : List α} (h : A.rep P s d a) (g : A.lstOf.rep P' s e l) (hd : A.dep < 64) : inQ d e s = some (decide (a ∈ l)) := by
  obtain ⟨n, ds, rfl, hp, hs, hl⟩ := g
  have g' : A.lstOf.rep P' s (.loc n) l := ⟨n, ds, rfl, hp, hs, hl⟩
  have sh := A.lstOf.shaped g' (show A.dep + 1 ≤ 64 from hd)
  unfold inQ
  simp only [hs]
  rw [A.dat h (by omega), datA_all2 hl (by omega)]
  simp only [A.shaped h (by omega), true_and]
  rw [if_pos (show SeqAt.shaped (.list (l.map A.py)) = true from sh)]
  congr 1
  rw [Bool.eq_iff_iff, decide_eq_true_iff, List.any_eq_true]
  simp only [List.mem_map]
  exact ⟨fun ⟨z, ⟨b, hb, e⟩, q⟩ => by rw [← e, A.eqv] at q; rw [← q]; exact hb, fun q => ⟨_, ⟨a, q, rfl⟩, (A.eqv _ _).mpr rfl⟩⟩
theorem oIn_enc [DecidableEq α] (A : Enc α) {a : α} {l : List α} (h : A.rep P s d a) (g : A.lstOf.rep P' s e l) (hd : A.dep < 64) : oIn d e s = .ok (.bl (decide (a ∈ l))) s := by
  unfold oIn; rw [inQ_enc A h g hd]; rfl
theorem oNotIn_enc [DecidableEq α] (A : Enc α) {a : α} {l : List α} (h : A.rep P s d a) (g : A.lstOf.rep P' s e l) (hd : A.dep < 64) : oNotIn d e s = .ok (.bl (!decide (a ∈ l))) s := by
  unfold oNotIn; rw [inQ_enc A h g hd]; rfl
/-! ### lists of numbers -/
def nD (k : Nat) : Dv := .int k
theorem nat_all {l : List Nat} : All2 (Enc.nat.rep P s) (l.map nD) l := .of_map fun _ _ => rfl
theorem nat_of {l : List Nat} {ds : List Dv} (h : All2 (Enc.nat.rep P s) ds l) : ds = l.map nD := h.to_map fun _ _ _ _ z => z
abbrev NL : Enc (List Nat) := .lstOf .nat
abbrev NLL : Enc (List (List Nat)) := .lstOf NL
theorem nl_iff {l : List Nat} : NL.rep P s d l ↔ ∃ n, d = .loc n ∧ ¬ P n ∧ s[n]? = some (.lst (l.map nD)) :=
  ⟨fun ⟨n, ds, e, hp, hs, h⟩ => ⟨n, e, hp, by rw [hs, nat_of h]⟩, fun ⟨n, e, hp, hs⟩ => ⟨n, _, e, hp, hs, nat_all⟩⟩
theorem oIn_nat {n k : Nat} {l : List Nat} (h : s[n]? = some (.lst (l.map nD))) : oIn (nD k) (.loc n) s = .ok (.bl (decide (k ∈ l))) s :=
  oIn_enc Enc.nat (P := noP) rfl (nl_iff (P := noP).mpr ⟨n, rfl, id, h⟩) (by decide)
theorem oNotIn_nat {n k : Nat} {l : List Nat} (h : s[n]? = some (.lst (l.map nD))) : oNotIn (nD k) (.loc n) s = .ok (.bl (!decide (k ∈ l))) s :=
  oNotIn_enc Enc.nat (P := noP) rfl (nl_iff (P := noP).mpr ⟨n, rfl, id, h⟩) (by decide)
theorem inQ_tupE [DecidableEq α] (A : Enc α) {a : α} {l : List α} (h : A.rep P s d a) (g : A.tupOf.rep P' s e l) (hd : A.dep < 64) : inQ d e s = some (decide (a ∈ l)) := by
  obtain ⟨ds, rfl, hl⟩ := g
  have g' : A.tupOf.rep P' s (.tup ds) l := ⟨ds, rfl, hl⟩
  have sh := A.tupOf.shaped g' (show A.dep + 1 ≤ 64 from hd)
  unfold inQ
  simp only
  rw [A.dat h (by omega), datA_all2 hl (by omega)]
  simp only [A.shaped h (by omega), true_and]
  rw [if_pos (show SeqAt.shaped (.tuple (l.map A.py)) = true from sh)]
  congr 1
  rw [Bool.eq_iff_iff, decide_eq_true_iff, List.any_eq_true]
  simp only [List.mem_map]
  exact ⟨fun ⟨z, ⟨b, hb, e⟩, q⟩ => by rw [← e, A.eqv] at q; rw [← q]; exact hb, fun q => ⟨_, ⟨a, q, rfl⟩, (A.eqv _ _).mpr rfl⟩⟩
theorem oIn_tupE [DecidableEq α] (A : Enc α) {a : α} {l : List α} (h : A.rep P s d a) (g : A.tupOf.rep P' s e l) (hd : A.dep < 64) : oIn d e s = .ok (.bl (decide (a ∈ l))) s := by
  unfold oIn; rw [inQ_tupE A h g hd]; rfl
/-! ### lists of texts -/
abbrev SL : Enc (List Str) := .lstOf .str
theorem str_of {l : List Str} {ds : List Dv} (h : All2 (Enc.str.rep P s) ds l) : ds = l.map Dv.str := h.to_map fun _ _ _ _ z => z.1
theorem str_all {l : List Str} (h : ∀ x ∈ l, PyData.strOk x = true) : All2 (Enc.str.rep P s) (l.map Dv.str) l := .of_map fun x hx => ⟨rfl, h x hx⟩
theorem sl_rep {l : List Str} {n : Nat} (hn : ¬ P n) (hs : s[n]? = some (.lst (l.map Dv.str))) (h : ∀ x ∈ l, PyData.strOk x = true) : SL.rep P s (.loc n) l := ⟨n, _, rfl, hn, hs, str_all h⟩
theorem oNotIn_str {n : Nat} {x : Str} {l : List Str} (hs : s[n]? = some (.lst (l.map Dv.str))) (hx : PyData.strOk x = true) (h : ∀ x ∈ l, PyData.strOk x = true) : oNotIn (.str x) (.loc n) s = .ok (.bl (!decide (x ∈ l))) s :=
  oNotIn_enc Enc.str (P := noP) ⟨rfl, hx⟩ (sl_rep (P := noP) id hs h) (by decide)
/-! ### a list of two kinds -/
def Enc.two (A : Enc α) (B : Enc β) : Enc (α × β) where
  rep P s d a := ∃ n x y, d = .loc n ∧ ¬ P n ∧ s[n]? = some (.lst [x, y]) ∧ A.rep P s x a.1 ∧ B.rep P s y a.2
  py a := .list [A.py a.1, B.py a.2]
  dep := max A.dep B.dep + 1
  mono h f := by
    obtain ⟨n, x, y, rfl, hp, hs, h1, h2⟩ := h
    refine ⟨n, x, y, rfl, fun z => ?_, hs, A.mono h1 f, B.mono h2 f⟩
    rcases f n z with q | q
    · exact hp q
    · have := lt_of hs; omega
  fr h f g := by
    obtain ⟨n, x, y, rfl, hp, hs, h1, h2⟩ := h
    exact ⟨n, x, y, rfl, hp, f.get hs fun z => hp (g n z), A.fr h1 f g, B.fr h2 f g⟩
  dat h hn := by
    obtain ⟨k, x, y, rfl, hp, hs, h1, h2⟩ := h
    rename_i n'
    cases n' with
    | zero => omega
    | succ n => simp [Mid.dat, hs, datA, A.dat h1 (n := n) (by omega), B.dat h2 (n := n) (by omega)]
  lay h := by obtain ⟨n, x, y, rfl, hp, hs, h1, h2⟩ := h; simp [PyData.canLay0, PyData.canLayAll0, A.lay h1, B.lay h2]
  depth a := by
    have := A.depth a.1
    have := B.depth a.2
    simp [PyData.depth, PyData.depthAll]; omega
  eqv a b := by
    simp [PyData.eqv, PyData.eqvAll, A.eqv, B.eqv]
    exact ⟨fun h => Prod.ext h.1 h.2, fun h => by rw [h]; exact ⟨rfl, rfl⟩⟩
end
end Mid
/-! MidE: comprehensions and loops over data. -/
namespace Mid
open PySem
noncomputable section
variable {α β : Type} {P : Nat → Prop} {s : Mst} {σ : Men}
theorem bDict_pairs {n : Nat} {l : List Dv} {kvs : List (KeyQ × Dv)} (h : s[n]? = some (.lst l)) (hp : pairsQ l = some kvs) : bDict [.loc n] s = .ok (.loc s.length) (s ++ [.dK (kputs [] kvs)]) := by
  show (match (bAny.lstQ (.loc n) s).bind pairsQ with | some kvs => _ | none => _) = _
  rw [lstQ_loc h, Option.bind_some, hp]; rfl
theorem tUpdate_dict {n m : Nat} {kvs more : List (KeyQ × Dv)} (h : s[n]? = some (.dK kvs)) (h2 : s[m]? = some (.dK more)) (hn : n ≠ m) (hl : kvs.length + more.length < 2 ^ 24) : tUpdate [.loc n, .loc m] s = .ok .non (s.set n (.dK (kputs kvs more))) := by
  show (match s[n]?, s[m]? with | some (.dK kvs), some (.dK more) => _ | _, _ => _) = _
  rw [h, h2]
  exact if_pos ⟨hn, hl⟩
theorem r62 {n : Nat} (h : n ≤ 2 ^ 24) : -(2 ^ 62) ≤ (n : Int) ∧ (n : Int) < 2 ^ 62 := by
  have e : (2 : Int) ^ 62 = 4611686018427387904 := by decide
  rw [e]; omega
theorem rng0 (n : Nat) : rngI 0 n = (List.range n).map nD := by
  simp [rngI, nD]
theorem rngN (b n : Nat) : rngI (b : Int) n = (List.range' b n).map nD := by
  rw [List.range'_eq_map_range]; simp [rngI, nD]
theorem take_filter_map {xs : List α} {p : α → Bool} {f : α → β} {i : Nat} {a : α} (h : xs[i]? = some a) :
    ((xs.take (i + 1)).filter p).map f = ((xs.take i).filter p).map f ++ (if p a = true then [f a] else []) := by
  rw [List.take_add_one, h, List.filter_append, List.map_append]
  by_cases q : p a = true <;> simp [q]
/-- a comprehension whose items are data made anew -/
theorem lc_new {src : List (Nat × List Dv)} {g : MG} {t : MT} {e : ME} {Q : List Dv → Mst → Prop} (E : Enc β) (xs : List α) (enc : α → Dv) (p : α → Bool) (f : α → β)
    (hst : ∀ s', Fr [] s s' → Mit.stays src s')
    (step : ∀ a ∈ xs, ∀ s', Fr [] s s' → (g (enc a) σ s').to fun σ1 s1 => (t σ1 s1).to fun c s2 => c = p a ∧ Fr [] s' s2 ∧ (p a = true → (e σ1 s2).to fun d s3 => Fr [] s2 s3 ∧ E.rep P s3 d (f a)))
    (fin : ∀ ds s', Fr [] s s' → All2 (E.rep P s') ds ((xs.filter p).map f) → Q ds s') : (lcF src g t e σ (xs.map enc) s).to Q := by
  refine lc_by (fun i ds s' => Fr [] s s' ∧ All2 (E.rep P s') ds (((xs.take i).filter p).map f)) ⟨.refl, by simpa using .nil⟩ (fun _ _ _ h => hst _ h.1) ?_ ?_
  · rintro i x ds s' hx ⟨hf, ha⟩
    rw [List.getElem?_map] at hx
    cases q : xs[i]? with
    | none => rw [q] at hx; cases hx
    | some a =>
      rw [q] at hx; cases hx
      refine to_mono (step a (List.mem_of_getElem? q) s' hf) fun σ1 s1 h1 => to_mono h1 fun c s2 ⟨hc, f2, h2⟩ => ?_
      rw [take_filter_map q, hc]
      by_cases hp : p a = true
      · simp only [hp, if_true]
        refine to_mono (h2 hp) fun d s3 ⟨f3, r3⟩ => ⟨hf.trans (f2.trans f3), (ha.imp fun _ _ _ _ z => E.fr0 z (f2.trans f3)).snoc r3⟩
      · simp only [hp, Bool.false_eq_true, if_false, List.append_nil]
        exact ⟨hf.trans f2, ha.imp fun _ _ _ _ z => E.fr0 z f2⟩
  · rintro ds s' ⟨hf, ha⟩
    rw [List.length_map, List.take_length] at ha
    exact fin ds s' hf ha
/-- a comprehension that makes nothing anew -/
theorem lc_pure {src : List (Nat × List Dv)} {g : MG} {t : MT} {e : ME} {Q : List Dv → Mst → Prop} (xs : List α) (enc : α → Dv) (p : α → Bool) (f : α → Dv)
    (hst : Mit.stays src s)
    (step : ∀ a ∈ xs, (g (enc a) σ s).to fun σ1 s1 => (t σ1 s1).to fun c s2 => c = p a ∧ (p a = true → (e σ1 s2).to fun d s3 => d = f a ∧ s3 = s) ∧ (p a = false → s2 = s))
    (fin : Q ((xs.filter p).map f) s) : (lcF src g t e σ (xs.map enc) s).to Q := by
  refine lc_by (fun i ds s' => s' = s ∧ ds = ((xs.take i).filter p).map f) ⟨rfl, by simp⟩ (fun _ _ _ h => by rw [h.1]; exact hst) ?_ ?_
  · rintro i x ds s' hx ⟨rfl, rfl⟩
    rw [List.getElem?_map] at hx
    cases q : xs[i]? with
    | none => rw [q] at hx; cases hx
    | some a =>
      rw [q] at hx; cases hx
      refine to_mono (step a (List.mem_of_getElem? q)) fun σ1 s1 h1 => to_mono h1 fun c s2 ⟨hc, h2, h3⟩ => ?_
      rw [take_filter_map q, hc]
      by_cases hp : p a = true
      · simp only [hp, if_true]
        refine to_mono (h2 hp) fun d s3 ⟨e1, e2⟩ => ⟨e2, by rw [e1]⟩
      · simp only [hp, Bool.false_eq_true, if_false, List.append_nil]
        exact ⟨h3 (by simpa using hp), trivial⟩
  · rintro ds s' ⟨rfl, rfl⟩
    rw [List.length_map, List.take_length]
    exact fin
/-- a for over known things -/
theorem for_map {N : Men → Mst → Prop} {R : Dv → Mst → Prop} {C B : Men → Mst → Prop} {src : List (Nat × List Dv)} {g : MG} {b : MS} (xs : List α) (enc : α → Dv) (I : Nat → Men → Mst → Prop) (h0 : I 0 σ s) (hst : ∀ i σ s, I i σ s → Mit.stays src s)
    (step : ∀ i a σ s, xs[i]? = some a → I i σ s → (g (enc a) σ s).to fun σ s => (b σ s).to (I (i + 1)) R (I (i + 1)) N) (fin : ∀ σ s, I xs.length σ s → N σ s) : (forF src g b (xs.map enc) σ s).to N R C B := by
  refine for_by I h0 hst ?_ ?_
  · intro i x σ s hx h
    rw [List.getElem?_map] at hx
    cases q : xs[i]? with
    | none => rw [q] at hx; cases hx
    | some a => rw [q] at hx; cases hx; exact step i a σ s q h
  · rw [List.length_map]; exact fin
theorem range_at {n i a : Nat} (h : (List.range n)[i]? = some a) : a = i ∧ i < n := by
  have := List.getElem?_eq_some_iff.mp h
  obtain ⟨h1, h2⟩ := this
  simp at h1 h2
  exact ⟨h2.symm, h1⟩
end
end Mid
/-! MidF: instances; dicts of lists; lists held against the empty one. -/
namespace Mid
open PySem
noncomputable section
/-! ### instances -/
section
variable {s : Mst} {n C : Nat} {fs : List (Str × Dv)} {f m : Str} {d : Dv} {cs : List Nat} {σ : Men} {Q : Dv → Mst → Prop} {N : Men → Mst → Prop} {R : Dv → Mst → Prop} {C' B : Men → Mst → Prop}
theorem oFld_of (h : s[n]? = some (.ins C fs)) (hc : C ∈ cs) (hl : fs.lookup f = some d) : oFld cs f (.loc n) s = .ok d s := by
  unfold oFld; simp only [h]; rw [if_pos hc, hl]; rfl
theorem msFldC_to {mo me : ME} {v : Dv} {s1 : Mst} (he : me σ s = .ok v s1) (ho : mo σ s1 = .ok (.loc n) s1) (h : s1[n]? = some (.ins C fs)) (hc : C ∈ cs) (hl : fs.length < 1000) (q : N σ (s1.set n (.ins C (putA f v fs)))) : (msFldC cs f mo me σ s).to N R C' B := by
  unfold msFldC
  rw [he, to_st, to_ok, to_st, ho, to_ok]
  simp only [h]
  rw [if_pos ⟨hc, hl⟩]
  exact q
theorem mMethC_to {F : MF} {o : ME} {ms : List ME} (ho : o σ s = .ok (.loc n) s) (h : s[n]? = some (.ins C fs)) (hl : fs.lookup m = none) (q : (mArgs ms σ s).to fun ds s2 => (F (.loc n :: ds) s2).to Q) : (mMethC C m F o ms σ s).to Q := by
  unfold mMethC
  rw [ho, to_bind, to_ok]
  simp only [h]
  rw [if_pos (by exact ⟨trivial, hl⟩), to_bind]
  refine to_mono q fun ds s2 z => ?_
  rw [to_noEr]; exact z
theorem mMake_to {F : MF} {ds : List Dv} (q : (F (.loc s.length :: ds) (s ++ [.ins C []])).to fun d s1 => d = .non ∧ Q (.loc s.length) s1) : (mMake C F ds s).to Q := by
  unfold mMake
  rw [to_bind]
  refine to_mono q fun d s1 ⟨e, z⟩ => ?_
  subst e; exact z
end
/-! ### x != [] -/
theorem oNe_nil {s : Mst} {n m : Nat} {l : List Nat} (h : s[n]? = some (.lst (l.map nD))) (g : s[m]? = some (.lst [])) : oNe (.loc n) (.loc m) s = .ok (.bl (!decide (l = []))) s :=
  oNe_enc NL (P := noP) (P' := noP) (nl_iff.mpr ⟨n, rfl, id, h⟩) (nl_iff.mpr ⟨m, rfl, id, g⟩) (by decide)
theorem oNe_nilL {s : Mst} {n m : Nat} {P : Nat → Prop} {ds : List Dv} {l : List (List Nat)} (h : s[n]? = some (.lst ds)) (hl : All2 (NL.rep P s) ds l) (g : s[m]? = some (.lst [])) : oNe (.loc n) (.loc m) s = .ok (.bl (!decide (l = []))) s :=
  oNe_enc NLL (P := noP) (P' := noP) ⟨n, ds, rfl, id, h, hl.imp fun _ _ _ _ z => NL.toNo z⟩ ⟨m, [], rfl, id, g, .nil⟩ (by decide)
/-! ### dicts by a kind of keys -/
structure DKind (α : Type) [DecidableEq α] where
  key : Dv → Option α
  isk : MO → List (α × Dv) → Prop
  ty : ∀ {o kvs s n}, isk o kvs → s[n]? = some o → tyQ (.loc n) s = "dict"
  get : ∀ {o kvs s n d k}, isk o kvs → s[n]? = some o → key d = some k → dgQ (.loc n) d s = some (kval kvs k)
  setd : ∀ {o kvs s n d k} (e : Dv), isk o kvs → s[n]? = some o → key d = some k → kvs.length < 2 ^ 24 →
    (∀ x, kval kvs k = some x → setdQ (.loc n) d e s = .ok x s) ∧ (kval kvs k = none → ∃ o', isk o' (kput kvs k e) ∧ setdQ (.loc n) d e s = .ok e (s.set n o'))
  nl : ∀ {o kvs l}, isk o kvs → o ≠ .lst l
def kK : DKind KeyQ where
  key := keyQ
  isk o kvs := o = .dK kvs
  ty e h := by subst e; exact tyQ_dict h
  get e h hk := by subst e; unfold dgQ; simp only [h, hk]
  setd e i h hk hl := by
    subst i
    refine ⟨fun x hx => ?_, fun hn => ⟨_, rfl, ?_⟩⟩
    · unfold setdQ; simp only [h, hk, hx]; rw [if_pos hl]
    · unfold setdQ; simp only [h, hk, hn]; rw [if_pos hl]
  nl e z := by subst e; cases z
theorem keyN_keyQ {d : Dv} {k : NestedKey} (h : keyN d = some k) : keyQ d = none := by
  cases d with
  | tup l => rfl
  | _ => cases h
def kN : DKind NestedKey where
  key := keyN
  isk o kvs := o = .dN kvs ∨ (o = .dK [] ∧ kvs = [])
  ty e h := by
    rcases e with e | ⟨e, _⟩ <;> subst e
    · unfold tyQ; simp only [h]
    · exact tyQ_dict h
  get e h hk := by
    rcases e with e | ⟨e, e2⟩ <;> subst e
    · unfold dgQ; simp only [h, hk]; rfl
    · subst e2
      have hq : keyQ _ = none := keyN_keyQ hk
      unfold dgQ; simp only [h, hq, hk]; rfl
  setd e i h hk hl := by
    rcases i with i | ⟨i, i2⟩ <;> subst i
    · refine ⟨fun x hx => ?_, fun hn => ⟨_, .inl rfl, ?_⟩⟩
      · unfold setdQ; simp only [h, hk, hx]; rw [if_pos hl]
      · unfold setdQ; simp only [h, hk, hn]; rw [if_pos hl]
    · subst i2
      have hq : keyQ _ = none := keyN_keyQ hk
      refine ⟨fun x hx => (by cases hx), fun hn => ⟨_, .inl rfl, ?_⟩⟩
      unfold setdQ; simp only [h, hq, hk]; rw [if_pos (by simp)]
      rfl
  nl e z := by
    rcases e with e | ⟨e, _⟩ <;> subst e <;> cases z
section
variable {α : Type} [DecidableEq α] {D : DKind α} {s s' : Mst} {n m : Nat} {f : α → List Nat} {kvs : List (α × Dv)} {k : α} {d : Dv} {P : Nat → Prop}
theorem kval_put {kvs : List (α × Dv)} {k k' : α} {v : Dv} : kval (kput kvs k v) k' = if k = k' then some v else kval kvs k' := by
  have g : ∀ l : List (α × Dv), kval (l.map fun kv => if kv.1 = k then (kv.1, v) else kv) k' = if k = k' then (if k ∈ l.map (·.1) then some v else none) else kval l k' := by
    intro l
    unfold kval
    induction l with
    | nil => simp
    | cons a r ih =>
      rw [List.map_cons, List.find?_cons, List.find?_cons]
      by_cases ha : a.1 = k
      · rw [if_pos ha]
        by_cases hk : k = k'
        · subst hk; simp [ha]
        · have h1 : ¬ a.1 = k' := fun z => hk (ha.symm.trans z)
          simp only [decide_eq_false h1]
          rw [ih, if_neg hk, if_neg hk]
      · rw [if_neg ha]
        by_cases hk : k = k'
        · subst hk
          simp only [decide_eq_false ha]
          rw [ih]
          have : ¬ k = a.1 := fun z => ha z.symm
          simp only [if_true, List.map_cons, List.mem_cons, this, false_or]
        · by_cases h1 : a.1 = k'
          · simp [h1, hk]
          · simp only [decide_eq_false h1]
            rw [ih, if_neg hk, if_neg hk]
  unfold kput
  split
  · rename_i h
    rw [g]
    by_cases hk : k = k'
    · rw [if_pos hk, if_pos hk, if_pos]
      rw [List.any_eq_true] at h
      obtain ⟨a, h1, h2⟩ := h
      exact List.mem_map.mpr ⟨a, h1, of_decide_eq_true h2⟩
    · rw [if_neg hk, if_neg hk]
  · rename_i h
    unfold kval
    rw [List.find?_append, Option.map_or]
    by_cases hk : k = k'
    · subst hk
      rw [if_pos rfl]
      have : kvs.find? (fun kv => decide (kv.1 = k)) = none := by
        rw [List.find?_eq_none]
        intro a ha z
        exact h (List.any_eq_true.mpr ⟨a, ha, z⟩)
      rw [this]; simp
    · rw [if_neg hk]
      simp [hk]
theorem mem_kput {kvs : List (α × Dv)} {k k' : α} {v : Dv} : k' ∈ (kput kvs k v).map (·.1) ↔ k' = k ∨ k' ∈ kvs.map (·.1) := by
  rw [← kval_some, ← kval_some, kval_put]
  by_cases h : k = k'
  · simp [h]
  · have : ¬ k' = k := fun z => h z.symm
    simp [h, this]
theorem kput_nd {kvs : List (α × Dv)} {q : α} {v : Dv} (nd : (kvs.map (·.1)).Nodup) : ((kput kvs q v).map (·.1)).Nodup := by
  unfold kput
  split
  · have : (kvs.map fun kv => if kv.1 = q then (kv.1, v) else kv).map (·.1) = kvs.map (·.1) := by
      rw [List.map_map]
      refine List.map_congr_left fun e _ => ?_
      simp only [Function.comp_def]
      split <;> rfl
    rw [this]; exact nd
  · rename_i hn
    rw [List.map_append, List.nodup_append]
    refine ⟨nd, by simp, fun a ha b hb e => hn ?_⟩
    obtain ⟨e1, h1, rfl⟩ := List.mem_map.mp ha
    simp at hb
    subst hb
    exact List.any_eq_true.mpr ⟨e1, h1, decide_eq_true e⟩
/-- a dict of lists of numbers: what it holds at each key, none where nothing -/
structure ML (D : DKind α) (P : Nat → Prop) (s : Mst) (n : Nat) (f : α → List Nat) (kvs : List (α × Dv)) : Prop where
  ob : ∃ o, s[n]? = some o ∧ D.isk o kvs
  dom : ∀ k, k ∈ kvs.map (·.1) ↔ f k ≠ []
  val : ∀ k d, kval kvs k = some d → ∃ l, d = .loc l ∧ P l ∧ s[l]? = some (.lst ((f k).map nD))
  inj : ∀ k k' l, kval kvs k = some (.loc l) → kval kvs k' = some (.loc l) → k = k'
  nd : (kvs.map (·.1)).Nodup
theorem ML.ty (h : ML D P s n f kvs) : tyQ (.loc n) s = "dict" := by
  obtain ⟨o, h1, h2⟩ := h.ob
  exact D.ty h2 h1
theorem ML.none (h : ML D P s n f kvs) (k : α) : kval kvs k = none ↔ f k = [] := by
  have := (kval_some (kvs := kvs) (k := k)).trans (h.dom k)
  cases e : kval kvs k with
  | none => rw [e] at this; simpa using this
  | some d => rw [e] at this; simpa using this
/-- d.get(k, []) -/
theorem ML.getd (h : ML D P s n f kvs) (hk : D.key d = some k) {e : Nat} (he : s[e]? = some (.lst [])) : ∃ l, tGet [.loc n, d, .loc e] s = .ok (.loc l) s ∧ s[l]? = some (.lst ((f k).map nD)) ∧ (kval kvs k = some (.loc l) ∨ f k = []) := by
  obtain ⟨o, h1, h2⟩ := h.ob
  have g := D.get h2 h1 hk
  cases q : kval kvs k with
  | none =>
    refine ⟨e, ?_, by rw [(h.none k).mp q]; exact he, .inr ((h.none k).mp q)⟩
    show ofO ((dgQ (.loc n) d s).map fun o => o.getD (.loc e)) s = _
    rw [g, q]; rfl
  | some x =>
    obtain ⟨l, rfl, _, h3⟩ := h.val k x q
    refine ⟨l, ?_, h3, .inl rfl⟩
    show ofO ((dgQ (.loc n) d s).map fun o => o.getD (.loc e)) s = _
    rw [g, q]; rfl
/-- what stands apart from such a dict stays -/
theorem ML.fr (h : ML D P s n f kvs) {X : List Nat} (a : Fr X s s') (hn : n ∉ X) (hX : ∀ l ∈ X, ¬ P l) : ML D P s' n f kvs := by
  obtain ⟨o, h1, h2⟩ := h.ob
  exact ⟨⟨o, a.get h1 hn, h2⟩, h.dom, fun k d e => let ⟨l, e1, e2, e3⟩ := h.val k d e; ⟨l, e1, e2, a.get e3 fun z => hX l z e2⟩, h.inj, h.nd⟩
def addF (f : α → List Nat) (k : α) (v : Nat) : α → List Nat := fun k' => if k = k' then f k ++ [v] else f k'
/-- d.setdefault(k, []).append(v) -/
theorem ML.add {Q : Dv → Mst → Prop} {v : Nat} (h : ML D P s n f kvs) (hk : D.key d = some k) (hl : kvs.length < 2 ^ 24) (hf : (f k).length < 2 ^ 24) (hP : P s.length)
    (q : ∀ s' kvs', ML D P s' n (addF f k v) kvs' → kvs'.length ≤ kvs.length + 1 → s'.length = s.length + 1 → (∀ m, m ≠ n → m < s.length → ¬ P m → s'[m]? = s[m]?) → (∀ m o, m ≠ n → s[m]? = some o → (∀ l, o ≠ .lst l) → s'[m]? = some o) → Q .non s') :
    (tSetd [.loc n, d, .loc s.length] (s ++ [.lst []])).to fun x s2 => tyQ x s2 = "list" ∧ (tAppend [x, nD v] s2).to Q := by
  obtain ⟨o, h1, h2⟩ := h.ob
  have h1' : (s ++ [MO.lst []])[n]? = some o := look_app h1
  obtain ⟨g1, g2⟩ := D.setd (.loc s.length) h2 h1' hk hl
  show (setdQ (.loc n) d (.loc s.length) (s ++ [.lst []])).to _
  have hdom : ∀ k', (k' = k ∨ k' ∈ kvs.map (·.1)) ↔ addF f k v k' ≠ [] := fun k' => by
    unfold addF
    rw [h.dom]
    by_cases e : k = k'
    · rw [if_pos e]; simp [e]
    · rw [if_neg e]
      have : ¬ k' = k := fun z => e z.symm
      simp [this]
  cases e : kval kvs k with
  | some x =>
    obtain ⟨l, rfl, hp, h3⟩ := h.val k x e
    have h3' : (s ++ [MO.lst []])[l]? = some (.lst ((f k).map nD)) := look_app h3
    rw [g1 _ e, to_ok]
    refine ⟨tyQ_lst h3', ?_⟩
    rw [tAppend_lst h3' (by rw [List.length_map]; exact hf), to_ok]
    have hln : l ≠ n := fun z => by subst z; rw [h3] at h1; cases h1; exact D.nl h2 rfl
    refine q _ kvs ⟨⟨o, look_ne h1' hln, h2⟩, fun k' => ?_, fun k' x e' => ?_, h.inj, h.nd⟩ (Nat.le_succ _) (by simp) (fun m hm hm2 hm3 => ?_) fun m o' hm hs hnl => ?_
    · rw [← hdom]
      exact ⟨.inr, fun z => z.elim (fun z => by rw [z]; exact kval_some.mp (by rw [e]; rfl)) id⟩
    · by_cases hkk : k = k'
      · subst hkk
        rw [e] at e'; cases e'
        refine ⟨l, rfl, hp, ?_⟩
        rw [look_put h3']
        unfold addF
        rw [if_pos rfl, List.map_append]; rfl
      · obtain ⟨l', rfl, hp', h4⟩ := h.val k' x e'
        have hll : l ≠ l' := fun z => hkk (h.inj k k' l e (by rw [z]; exact e'))
        refine ⟨l', rfl, hp', ?_⟩
        rw [look_ne (look_app h4) hll]
        unfold addF
        rw [if_neg hkk]
    · rw [List.getElem?_set_ne (fun z => by subst z; exact hm3 hp), List.getElem?_append_left hm2]
    · rw [List.getElem?_set_ne (fun z => by subst z; rw [h3] at hs; cases hs; exact hnl _ rfl)]
      exact look_app hs
  | none =>
    obtain ⟨o', i', g3⟩ := g2 e
    have hlt := lt_of h1
    rw [g3, to_ok]
    have h5 : ((s ++ [MO.lst []]).set n o')[s.length]? = some (.lst []) := by
      rw [List.getElem?_set_ne (Nat.ne_of_lt hlt)]; simp
    refine ⟨tyQ_lst h5, ?_⟩
    rw [tAppend_lst h5 (by simp), to_ok]
    have hsn : s.length ≠ n := Nat.ne_of_gt hlt
    refine q _ (kput kvs k (.loc s.length)) ⟨⟨o', ?_, i'⟩, fun k' => ?_, fun k' x e' => ?_, fun k1 k2 l e1 e2 => ?_, kput_nd h.nd⟩ ?_ (by simp) (fun m hm hm2 hm3 => ?_) fun m o2 hm hs hnl => ?_
    · exact look_ne (look_put h1') hsn
    · rw [mem_kput]; exact hdom k'
    · rw [kval_put] at e'
      by_cases hkk : k = k'
      · rw [if_pos hkk] at e'; cases e'
        subst hkk
        refine ⟨_, rfl, hP, ?_⟩
        rw [look_put h5]
        unfold addF
        rw [if_pos rfl, (h.none k).mp e]; rfl
      · rw [if_neg hkk] at e'
        obtain ⟨l', rfl, hp', h4⟩ := h.val k' x e'
        refine ⟨l', rfl, hp', ?_⟩
        have hln : n ≠ l' := fun z => by subst z; rw [h4] at h1; cases h1; exact D.nl h2 rfl
        rw [look_ne (look_ne (look_app h4) hln) (Nat.ne_of_gt (lt_of h4))]
        unfold addF
        rw [if_neg hkk]
    · rw [kval_put] at e1 e2
      have big : ∀ k l, kval kvs k = some (.loc l) → l < s.length := fun k l e => by
        obtain ⟨l', e3, _, h4⟩ := h.val k _ e
        cases e3; exact lt_of h4
      by_cases c1 : k = k1
      · rw [if_pos c1] at e1; cases e1
        by_cases c2 : k = k2
        · exact c1.symm.trans c2
        · rw [if_neg c2] at e2
          exact absurd (big _ _ e2) (Nat.lt_irrefl _)
      · rw [if_neg c1] at e1
        by_cases c2 : k = k2
        · rw [if_pos c2] at e2; cases e2
          exact absurd (big _ _ e1) (Nat.lt_irrefl _)
        · rw [if_neg c2] at e2
          exact h.inj _ _ _ e1 e2
    · rw [kput_new (fun z => by rw [← kval_some, e] at z; cases z)]; simp
    · rw [List.getElem?_set_ne (by omega), List.getElem?_set_ne (Ne.symm hm), List.getElem?_append_left hm2]
    · rw [List.getElem?_set_ne (Nat.ne_of_gt (lt_of hs)), List.getElem?_set_ne (Ne.symm hm)]
      exact look_app hs
end
end
end Mid
/-! MidX: exceptions: a def that raises, raise, try .. except. -/
namespace Mid
open PySem PySem.Spec L2 Classical
open PyProof.Rows (envOfC)
/-! ### a def that raises -/
section
variable {P : Program} {w : World} {K : PySem.W.Frag} {mg : Str → Option Value} {base : Heap} {κ : Kap}
theorem fnX_ok {x qual : Str} {st : Stmt} {f : Addr} {fd : FuncData} {N ps : List Str} {k : Nat} {m : MS} (F : Fun K x qual st f fd) (S : FnScope N ps (defScope st))
    (hb : ∀ (cdv : Value) (A : Around) (outer : List Env) (s : Shared) (H : Hp) (E : XK), Room k (A.deeper (envOfC qual (defScope st) s.heap.objs.size f cdv)) →
      Takes (cxOf (L2.CX P w) P w K mg base N qual (defScope st) f cdv A outer s H E) (fun c d _ H => E c d H) → LSs (cxOf (L2.CX P w) P w K mg base N qual (defScope st) f cdv A outer s H E) κ (fun c d _ H => E c d H) (defBody st) m) :
    FnOk P w K mg base (L2.CX P w) (k + 1) f fd ps (spF K κ ps.length (mFun ps.length N.length m)) := by
  refine F.okX S (fun vs H Q E h => h.1) fun cdv A outer s H vs Q E hr h => ?_
  obtain ⟨hl, ρ, ds, st', R, hv, h⟩ := h
  refine ⟨_, hb cdv A outer s H E hr (takes_of rfl rfl rfl rfl), ρ, mStart N.length ds, st', R, er_start hv, ?_⟩
  unfold mFun at h
  rw [if_pos (by rw [← hv.length]; exact hl)] at h
  cases e : m (mStart N.length ds) st' with
  | nx σ1 s1 => rw [e] at h; exact fun ρ' H' σ' x R hE => h ρ' H' x R _ (by simp only [VR])
  | rt d s1 => rw [e] at h; exact fun ρ' H' v x R hv => h ρ' H' x R v hv
  | er z σ1 s1 => rw [e] at h; exact fun ρ' H' σ' c d x R hE q => h ρ' H' c d x R q
  | ct σ1 s1 => rw [e] at h; exact h.elim
  | bk σ1 s1 => rw [e] at h; exact h.elim
  | bad => rw [e] at h; exact h.elim
/-- the def called x does what F does; it may raise -/
def CalX (P : Program) (w : World) (K : PySem.W.Frag) (mg : Str → Option Value) (base : Heap) (κ : Kap) (k : Nat) (x : Str) (n : Nat) (F : MF) : Prop :=
  ∃ (f : Addr) (fd : FuncData) (ps : List Str), FnOk P w K mg base (L2.CX P w) k f fd ps (spF K κ n F) ∧ mg x = some (.ref f) ∧ PySem.W.keepIn K (.ref f) = true ∧ Binds K fd ps []
end
section
variable {X : Cx} {κ : Kap} {W : WX} {k n : Nat} {x : Str} {F : MF} {e : Expr} {es : List Expr} {ms : List ME} {p pos : Pos}
theorem le_calX (c : CalX X.prog X.w X.K X.mg X.base κ k x n F) (hr : Room k X.A) (tk : Takes X W) (hg : Gl X x) (ha : LA X κ W (e :: es) ms) (hn : ms.length = n := by rfl)
    (hdb : (x == ("__debug__" : Str)) = false := by decide) (he : starEach (e :: es) X.env = (false, eval e X.env) :: starEach es X.env := by rfl) (hpl : (backTo pos (starEach es X.env)).any (·.1) = false := by rfl) : LE X κ W (.Call (.Name x p) (e :: es) [] pos) (mCall F ms) := by
  obtain ⟨f, fd, ps, G, hm, hk, hb⟩ := c
  exact PE.by (pe_callS (E := WE W) G hr hg hm hk hb (fun σ => passAt tk σ) ha hdb he hpl) fun σ H Q ⟨ρ, σd, s, R, hEr, q⟩ => ⟨ρ, σd, s, R, hEr, (Fin.args (Fin.bind q)).mono fun ds ρ1 s1 H1 x1 R1 ⟨hnn, h1⟩ vs hvs => by
    refine ⟨by rw [hvs.length, hnn, hn], ρ1, ds, s1, R1, hvs, ?_⟩
    cases e2 : F ds s1 with
    | ok d s2 => rw [e2] at h1; exact h1
    | er z s2 => rw [e2] at h1; exact fun ρ' H' c d x R q => h1 ρ' H' c d x R q
    | bad => rw [e2] at h1; exact h1.elim⟩
end
/-! ### try -/
section
variable {X : Cx} {κ : Kap} {W : WX} {x nm : Str} {c : Value} {i : Nat} {body suite : List Stmt} {b₀ : Stmt} {np pos pos' : Pos} {mb : MS} {hit : Nat → Option Bool}
theorem FinS.clr {K : PySem.W.Frag} {D : Ends} {ρ : List Addr} {H : Hp} {i : Nat} {r : Sm} (h : FinS K κ W D ρ H (r.clr i)) :
    FinS K κ W0 { nx := fun σ' H' => D.nx (σ'.set i none) H', rt := D.rt, bk := fun σ' H' => D.bk (σ'.set i none) H', ct := fun σ' H' => D.ct (σ'.set i none) H' } ρ H r := by
  have go : ∀ {ρ' : List Addr} {H' : Hp} {σd : Men} {σ' : L2.St}, ER K κ ρ' H' σd σ' → ER K κ ρ' H' (σd.set i none) (σ'.set i none) := fun {ρ' H' σd σ'} e => ⟨by simp [e.len], fun j d q => by
    by_cases hj : j = i
    · subst hj
      rw [List.getElem?_set] at q
      simp only [if_true] at q
      split at q <;> cases q
    · rw [List.getElem?_set_ne (Ne.symm hj)] at q ⊢
      exact e.at_ j d q⟩
  cases r with
  | nx σd s => exact fun ρ' H' σ' y R e => h ρ' H' _ y R (go e)
  | ct σd s => exact fun ρ' H' σ' y R e => h ρ' H' _ y R (go e)
  | bk σd s => exact fun ρ' H' σ' y R e => h ρ' H' _ y R (go e)
  | rt d s => exact h
  | er e σd s => exact h.elim
  | bad => exact h
theorem FinS.noEr {K : PySem.W.Frag} {D : Ends} {ρ : List Addr} {H : Hp} {r : Sm} (h : FinS K κ W D ρ H r.noEr) : FinS K κ W0 D ρ H r := by
  cases r with
  | er e σd s => exact h.elim
  | nx σd s => exact h
  | ct σd s => exact h
  | bk σd s => exact h
  | rt d s => exact h
  | bad => exact h
theorem ls_tryAs {h : Nat → Option Nat → Nat → MS} (hs : X.stack = X.env :: X.outer) (hf : X.env.frame = some X.env.locals) (hN : X.N.Nodup) (hi : X.N[i]? = some nm) (hln : X.env.kindOf nm = some .local) (hc : Names X x c) (tk : Takes X W)
    (hh : ∀ n b, hit n = some b → PySem.W.exmOne X.K (.ref (κ n)) c = some b)
    (hb : ∀ (W : WX) (pn : List (Addr × Obj)) (xe : Value → Shared → Prop), Takes (X.tr pn xe) W → PassesOwn (model X.prog X.w) X.A X.env xe → LSs (X.tr pn xe) κ W body mb)
    (hsu : ∀ (a : Addr) (oe : Obj) (cls : Value) (d : Option Addr) (pn : List (Addr × Obj)) (cn : Nat), Zc cls d oe → (∃ vs, oe.data = .fields vs) → cls = .ref (κ cn) → LSs (X.suite a ((a, oe) :: pn)) κ W0 (b₀ :: suite) (h a d cn)) :
    LS X κ W (.Try body [.ExceptHandler (some (.Name x np)) (some nm) (b₀ :: suite) pos'] [] [] pos) (tryAs i mb hit h) :=
  PS.by (ps_try_as (i := i) (tb := fun W' => rdS X.K κ W' mb) (ts := fun a cls d D σ H => ∃ cn, cls = .ref (κ cn) ∧ rdS X.K κ W0 (h a d cn) D σ H) (Wout := W) hs hf hN hi hln hc tk hb
    (fun a oe cls d pn hz hfl => ⟨fun pins s σ H D I ⟨cn, hcn, q⟩ => (hsu a oe cls d pn cn hz hfl hcn).run pins s σ H D I q⟩)) fun D σ H ⟨ρ, σd, s, R, hE, q⟩ => ⟨ρ, σd, s, R, hE, by
    unfold tryAs at q
    cases e : mb σd s with
    | nx σ1 s1 => rw [e] at q; exact q
    | ct σ1 s1 => rw [e] at q; exact q
    | bk σ1 s1 => rw [e] at q; exact q
    | rt d s1 => rw [e] at q; exact q
    | bad => rw [e] at q; exact q
    | er z σ1 s1 =>
      rw [e] at q
      simp only at q
      intro ρ' H' σ' cls dx x R' hE' hX
      obtain ⟨hcl, hdx⟩ := hX
      cases e2 : hit z.cls with
      | none => rw [e2] at q; exact q.elim
      | some b =>
        rw [e2] at q
        refine ⟨b, by rw [hcl]; exact hh _ _ e2, fun hb => ?_, fun hb => ?_⟩
        · subst hb
          simp only at q
          split at q
          · rename_i hall
            intro a ha
            have hfx : dx.isSome = z.fs.isSome := by
              cases ef : z.fs with
              | none => rw [ef] at hdx; rw [hdx]; rfl
              | some fs => rw [ef] at hdx; obtain ⟨d, vs, e1, _⟩ := hdx; rw [e1]; rfl
            rw [← hall a dx hfx] at q
            refine ⟨z.cls, hcl, ρ', _, s1, R', ?_, FinS.clr (FinS.step q x)⟩
            have hv : VR X.K κ ρ' H' (.fix a dx z.ks z.vs) (.ref a) := by
              simp only [VR]
              refine ⟨by simp, fun p hp => ?_⟩
              subst hp
              cases ef : z.fs with
              | none => rw [ef] at hdx; cases hdx
              | some fs =>
                rw [ef] at hdx
                obtain ⟨d, vs, e1, e2, e3, e4⟩ := hdx
                cases e1
                refine ⟨vs, e2, ?_, ?_⟩
                · unfold Xv.ks; rw [ef]; exact e3
                · unfold Xv.vs; rw [ef]; exact e4
            refine ⟨by simp [hE'.len], fun j d' ej => ?_⟩
            by_cases hj : j = i
            · subst hj
              have hl : j < σ1.length := by
                rcases Nat.lt_or_ge j σ1.length with h | h
                · exact h
                · rw [List.getElem?_eq_none (by simpa using h)] at ej; cases ej
              rw [List.getElem?_set_self hl] at ej
              cases ej
              exact ⟨.ref a, by rw [List.getElem?_set_self (by rw [hE'.len]; exact hl)], hv⟩
            · rw [List.getElem?_set_ne (Ne.symm hj)] at ej ⊢
              exact hE'.at_ j d' ej
          · exact q.elim
        · subst hb
          simp only at q
          exact q ρ' H' σ' cls dx x R' hE' ⟨hcl, hdx⟩⟩
theorem ls_tryOnly {h : MS} (hs : X.stack = X.env :: X.outer) (hf : X.env.frame = some X.env.locals) (hc : Names X x c) (tk : Takes X W)
    (hh : ∀ n b, hit n = some b → PySem.W.exmOne X.K (.ref (κ n)) c = some b)
    (hb : ∀ (W : WX) (pn : List (Addr × Obj)) (xe : Value → Shared → Prop), Takes (X.tr pn xe) W → PassesOwn (model X.prog X.w) X.A X.env xe → LSs (X.tr pn xe) κ W body mb)
    (hsu : ∀ (a : Addr) (oe : Obj) (pn : List (Addr × Obj)), LSs (X.suite a ((a, oe) :: pn)) κ W0 (b₀ :: suite) h) :
    LS X κ W (.Try body [.ExceptHandler (some (.Name x np)) none (b₀ :: suite) pos'] [] [] pos) (tryOnly mb hit h) :=
  PS.by (ps_try_only (tb := fun W' => rdS X.K κ W' mb) (ts := fun a cls d => rdS X.K κ W0 h) (Wout := W) hs hf hc tk hb
    (fun a oe cls d pn hz hfl => hsu a oe pn)) fun D σ H ⟨ρ, σd, s, R, hE, q⟩ => ⟨ρ, σd, s, R, hE, by
    unfold tryOnly at q
    cases e : mb σd s with
    | nx σ1 s1 => rw [e] at q; exact q
    | ct σ1 s1 => rw [e] at q; exact q
    | bk σ1 s1 => rw [e] at q; exact q
    | rt d s1 => rw [e] at q; exact q
    | bad => rw [e] at q; exact q
    | er z σ1 s1 =>
      rw [e] at q
      simp only at q
      intro ρ' H' σ' cls dx x R' hE' hX
      obtain ⟨hcl, hdx⟩ := hX
      cases e2 : hit z.cls with
      | none => rw [e2] at q; exact q.elim
      | some b =>
        rw [e2] at q
        refine ⟨b, by rw [hcl]; exact hh _ _ e2, fun hb => ?_, fun hb => ?_⟩
        · subst hb
          intro a ha
          exact ⟨ρ', _, s1, R', hE', FinS.noEr (FinS.step q x)⟩
        · subst hb
          simp only at q
          exact q ρ' H' σ' cls dx x R' hE' ⟨hcl, hdx⟩⟩
end
end Mid
/-! MidY: exceptions with a field: made, raised, asked. -/
namespace Mid
open PySem PySem.Spec L2 Classical
open PyProof.Rows (envOfC)
/-! ### an own __init__ -/
section
variable {X : Cx} {x : Str} {e : Expr} {es : List Expr} {ta : TA} {p1 p2 pos : Pos} {CW : Addr} {mc : Value}
/-- Base.__init__(self, ..), Base a class of the program over ValueError -/
theorem pe_clinit {pl : Sem Bool} (hg : Gl X x) (hm : X.mg x = some (.ref CW)) (r : ClX.CRead X.K CW mc) (vV : PySem.W.findCls X.K (.ref CW) mc "__init__" = some (.val (.builtin "ValueError.__init__"))) (ha : PA X (e :: es) ta)
    (hdb : (x == ("__debug__" : Str)) = false := by decide)
    (hc : eval (.Call (.Attribute (.Name x p1) "__init__" p2) (e :: es) [] pos) X.env = (do
      let ov ← eval (.Name x p1) X.env
      standAt p2.atName
      let (f, first) ← holding [ov] (getMethod ov "__init__" pl)
      callWith pos f first (backTo pos (starEach (e :: es) X.env)) (backToKw pos (keywordEach [] X.env))) := by rfl)
    (he : starEach (e :: es) X.env = (false, eval e X.env) :: starEach es X.env := by rfl) (hpl : (backTo pos (starEach es X.env)).any (·.1) = false := by rfl) :
    PE X (.Call (.Attribute (.Name x p1) "__init__" p2) (e :: es) [] pos) (tVeI X.K ta) := by
  refine ⟨fun pins s σ H Q I h => ?_⟩
  refine PySem.W.methodCall_KW (ld_glob I hg hm ?_ hdb) hc
  refine PySem.W.method_cls I.kIn r.ga (PySem.W.cls_value I.kIn r.rd vV (by decide +kernel) ?_)
  show wpAny _ _ (callWith pos (Value.builtin "ValueError.__init__") [] (backTo pos (starEach (e :: es) X.env)) []) _ _ _
  refine PyProof.Rows.callWith_method1 (thn (ha.run pos pins _ σ H _ (I.tok _) h) fun us s1 ⟨vs, H1, I1, r1, a, C, ws, ev, hl, T, ea, q⟩ => ?_) he hpl
  subst ev
  cases r1 with
  | @cons _ u0 _ ur ra rw' =>
    obtain rfl : u0 = Value.ref a := ra
    have hlen : ur.length ≤ sizeLine := by
      rw [← Paired.length rw', sizeLine_eq]
      omega
    exact oinit_ok T I1 ea hlen fun s' J => ⟨.non, H1, J, rfl, q⟩
end
/-- what the __init__ of C does: it keeps what is given under f -/
def spInit (C : Addr) (f : Str) (ok : V → Prop) : Sp := fun vs H Q _ => ∃ a v, vs = [.ref a, v] ∧ ok v ∧ H a = some (exo a C none) ∧ ∀ dx, H dx = none → dx ≠ a → Q .non (upd (upd H dx (exd dx [(f, v)])) a (exo a C (some dx)))
section
variable {P : Program} {w : World} {K : PySem.W.Frag} {mg : Str → Option Value} {base : Heap}
/-- the class at C, called by x, with such an __init__ -/
def CalI (P : Program) (w : World) (K : PySem.W.Frag) (mg : Str → Option Value) (base : Heap) (k : Nat) (x : Str) (C : Addr) (f : Str) (ok : V → Prop) : Prop :=
  mg x = some (.ref C) ∧ OexC K C ∧ ∃ (fI : Addr) (fd : FuncData) (ps : List Str), FnOk P w K mg base CX0 k fI fd ps (spInit C f ok) ∧ PySem.W.findIn K (.ref C) "__init__" = some (some (.ref fI)) ∧ PySem.W.typeIn K (.ref fI) = some (.type "function") ∧ Binds K fd ps []
theorem fnI_ok {qual : Str} {st : Stmt} {fI C : Addr} {fd : FuncData} {p0 p1 f : Str} {k : Nat} {ok : V → Prop} {tt : TE} (F : Fun K "__init__" qual st fI fd) (S : FnScope [p0, p1] [p0, p1] (defScope st)) (T : OexC K C) (hno : PySem.W.findIn K (.ref C) f = some none)
    (htt : ∀ a v H (Q : VK), ok v → (∀ x, Q x H) → tt [some (.ref a), some v] H Q)
    (hb : ∀ (cdv : Value) (A : Around) (outer : List Env) (s : Shared) (H : Hp) (E : XK), Room k (A.deeper (envOfC qual (defScope st) s.heap.objs.size fI cdv)) →
      PSs (cxOf CX0 P w K mg base [p0, p1] qual (defScope st) fI cdv A outer s H E).nox (defBody st) (tSeq (tDrop (tVeI K (tCons (tVar 0) (tCons tt tNil)))) (tOst K f (tVar 0) (tVar 1)))) :
    FnOk P w K mg base CX0 (k + 1) fI fd [p0, p1] (spInit C f ok) := by
  refine F.ok S (fun vs H Q E ⟨a, v, e, _⟩ => by rw [e]; rfl) fun cdv A outer s H vs Q E hr h => ?_
  obtain ⟨a, v, rfl, hok, ha, h⟩ := h
  refine ⟨_, hb cdv A outer s H E hr, ?_⟩
  refine ⟨_, rfl, htt a v H _ hok fun x => ⟨a, C, [x], rfl, by show 1 ≤ 1000; decide, T, ha, ?_⟩⟩
  exact ⟨_, rfl, _, rfl, a, C, rfl, T, hno, .inl ⟨ha, fun dx hn ne => h dx hn ne⟩⟩
end
/-! ### raise -/
section
variable {X : Cx} {κ : Kap} {W : WX} {k C : Nat} {x f m : Str} {e : Expr} {me : ME} {p pos pos' p2 : Pos} {j : Nat}
theorem ls_raiseI {ok : V → Prop} {okd : Dv → Bool} (hc : X.calm = true) (tk : Takes X W) (c : CalI X.prog X.w X.K X.mg X.base k x (κ C) f ok) (hr : Room (k + 1) X.A) (hg : Gl X x) (ho : ∀ ρ H d v, okd d = true → VR X.K κ ρ H d v → ok v) (ha : LE X κ W e me)
    (hdb : (x == ("__debug__" : Str)) = false := by decide) (he : starEach (e :: []) X.env = (false, eval e X.env) :: starEach [] X.env := by rfl) (hpl : (backTo pos (starEach [] X.env)).any (·.1) = false := by rfl) :
    LS X κ W (.Raise (some (.Call (.Name x p) [e] [] pos)) none pos') (msRaiseI C f okd me) := by
  obtain ⟨hm, T, fI, fd, ps, F1, iC, tI, hb⟩ := c
  refine PS.by (ps_raise hc tk (pmk_oex T iC tI F1 hr hb .nil pass0 hg hm (pa_cons ha pa_nil he) hdb he hpl)) fun D σ H ⟨ρ, σd, s, R, hE, h⟩ => ?_
  refine ⟨ρ, σd, s, R, hE, (FinS.st h R hE).mono fun d ρ1 s1 H1 x1 R1 q v hv => ?_⟩
  refine ⟨by show 1 ≤ 1000; decide, fun a hna => ?_⟩
  by_cases hk : okd d = true
  · rw [if_pos hk] at q
    refine ⟨a, v, rfl, ho _ _ _ _ hk hv, upd_same, fun dx hn ne => ⟨rfl, dx, [(f, v)], upd_same, ?_, ?_, ?_⟩⟩
    · rw [upd_ne ne, upd_same]
    · rw [upd_ne ne] at hn; exact hn
    · rw [upd_ne ne] at hn
      have e : upd (del (upd (upd (upd H1 a (exo a (κ C) none)) dx (exd dx [(f, v)])) a (exo a (κ C) (some dx))) a) dx (.xd [(f, v)]) = upd H1 dx (.xd [(f, v)]) := by
        funext b
        by_cases h1 : b = dx
        · subst h1; rw [upd_same, upd_same]
        · rw [upd_ne h1, upd_ne h1]
          by_cases h2 : b = a
          · subst h2; rw [del_same, hna]
          · rw [del_ne h2, upd_ne h2, upd_ne h1, upd_ne h2]
      rw [e]
      exact q ρ1 _ σ _ _ (Step.lay hn) (R1.lay hn) ((hE.later R x1).later R1 (Step.lay hn)) ⟨rfl, dx, [(f, v)], rfl, upd_same, rfl, .cons (VR.later R1 (Step.lay hn) _ _ hv) .nil⟩
  · rw [if_neg hk] at q; exact q.elim
theorem ls_raise0 {newId initId : String} {B : String} {bmB : List Value} (hc : X.calm = true) (tk : Takes X W) (F : ExcBaseFacts B newId initId bmB) (q : PySem.W.excIn X.K (κ C) bmB newId = true) (gC : X.mg x = some (.ref (κ C))) (kC : PySem.W.keepIn X.K (.ref (κ C)) = true) (r : Raises X (.ref (κ C))) (hg : Gl X x)
    (hdb : (x == ("__debug__" : Str)) = false := by decide) : LS X κ W (.Raise (some (.Call (.Name x p) [.Constant (.str m) j p2] [] pos)) none pos') (msRaise0 C) :=
  PS.by (ps_raise hc tk (pmk_own F q gC kC r hg hdb)) fun D σ H ⟨ρ, σd, s, R, hE, h⟩ => h ρ H σ _ _ Step.refl R hE ⟨rfl, rfl⟩
end
/-! ### isinstance of the exception that a suite holds, its field -/
/-- what isinstance reads of the class of a caught exception -/
structure XcC (K : PySem.W.Frag) (D : Addr) : Prop extends ExcC K D, XfC K D where
  hc : (PySem.W.clsIn K D).isSome = true
section
variable {X : Cx} {κ : Kap} {W : WX} {a D : Addr} {oe : Obj} {pn : List (Addr × Obj)} {cls : Value} {d : Option Addr}
def rIsX (K : PySem.W.Frag) (D a : Addr) (d : Option Addr) : List V → Hp → VK → Prop := fun xs H Q => ∃ (c : V) (b : Bool), xs = [.ref a, c] ∧ (∀ p, d = some p → ∃ fs, H p = some (.xd fs)) ∧
  ((∃ cv, (∀ u, RelV c u → u = cv) ∧ PySem.W.kitOne K (.ref D) cv = some b) ∨ (∃ p its cs cvs, c = .ref p ∧ H p = some (.frz (tupO its) (.tup cs)) ∧ (∀ us, Vals cs us → us = cvs) ∧ PySem.W.kitAny K (.ref D) cvs = some b)) ∧ Q (.bl b) H
theorem call_isX (C : XcC X.K D) (hz : Zc (.ref D) d oe) (hf : ∃ vs, oe.data = .fields vs) : CallR (X.suite a ((a, oe) :: pn)) (.builtin "isinstance") (rIsX X.K D a d) := by
  intro pins s σ H xs us Q I r h
  obtain ⟨c, b, rfl, hd, hk, q⟩ := h
  cases r with
  | cons rx rr =>
    cases rr with
    | @cons _ cv0 _ _ rt rr =>
      cases rr
      cases rx
      obtain ⟨hget, _⟩ := I.pin (a, oe) (List.mem_append.mpr (.inl List.mem_cons_self))
      obtain ⟨vs, hv⟩ := hf
      obtain ⟨od, J⟩ : ∃ od, PySem.W.InstAt s.heap a oe D od := by
        cases hd0 : d with
        | none =>
          rw [hd0] at hz
          exact ⟨none, hget, hz.1, by unfold PySem.W.notCls; rw [hv] <;> rfl, by rw [hz.2]; exact True.intro⟩
        | some p =>
          rw [hd0] at hz
          obtain ⟨fs, e⟩ := hd p hd0
          have hx : ObjOk X.prog X.w H s.heap p (.xd fs) := I.hok p _ e
          obtain ⟨mA, hns, hr⟩ := hx
          obtain ⟨od, ho, hl⟩ := lookIn_ns hns
          exact ⟨some od, hget, hz.1, by unfold PySem.W.notCls; rw [hv] <;> rfl, by rw [hz.2]; exact ho⟩
      have Z := PySem.W.kitx_exc (K := X.K) (x := a) (C := D) (ox := oe) (od := od) C.hc C.hg C.hk C.hs C.ha C.hn C.ht C.hm
      rcases hk with ⟨cv, hcv, e⟩ | ⟨p, its, cs, cvs, rfl, e1, e2, e3⟩
      · have ec := hcv _ rt
        subst ec
        exact PySem.W.kia_one Z I.kIn J e (fun z => nomatch z) fun tk => ⟨.bl b, H, I.kept (t' := tk) fun _ _ z => z, rfl, q⟩
      · cases rt
        obtain ⟨g, z, its', r, o, ho, _, n, hdat⟩ := I.hok p _ e1
        rw [g] at ho; cases ho
        have e : its.toArray = its'.toArray := by injection hdat
        have e' : its = its' := by have := congrArg Array.toList e; simpa using this
        subst e'
        have h2 := e2 _ r
        subst h2
        exact PySem.W.kia_tup Z I.kIn J g e3 (fun z => nomatch z) fun tk => ⟨.bl b, H, I.kept (t' := tk) fun _ _ z => z, rfl, q⟩
/-- the classes of a tuple, read -/
def tK (cs : List V) : TA := fun _ H Q => Q cs H
theorem pak_nil {X : Cx} : PA X [] (tK []) := ⟨fun pos pins s σ H Q I h => pa_nil.run pos pins s σ H Q I h⟩
theorem pak_cons {X : Cx} {e : Expr} {es : List Expr} {v : V} {cs : List V} (h : PE X e (tC v)) (hr : PA X es (tK cs)) (hs : starEach (e :: es) X.env = (false, eval e X.env) :: starEach es X.env := by rfl) : PA X (e :: es) (tK (v :: cs)) :=
  ⟨fun pos pins s σ H Q I q => (pa_cons h hr hs).run pos pins s σ H Q I q⟩
theorem relV_ref {c : Addr} : ∀ u, RelV (.ref c) u → u = Value.ref c := fun _ h => h
theorem relV_ty {c : String} : ∀ u, RelV (.ty c) u → u = Value.type c := fun _ h => h
theorem vals_nilK : ∀ us, Vals [] us → us = [] := fun us h => by cases h; rfl
theorem vals_consK {v : V} {vs : List V} {u : Value} {us : List Value} (h : ∀ x, RelV v x → x = u) (hr : ∀ xs, Vals vs xs → xs = us) : ∀ xs, Vals (v :: vs) xs → xs = u :: us := fun xs h' => by
  cases h' with
  | cons a b => rw [h _ a, hr _ b]
/-- what VR tells of the slot of the exception -/
theorem VR.fixE {K : PySem.W.Frag} {ρ : List Addr} {H : Hp} {a : Nat} {dd : Option Nat} {ks : List Str} {l : List Dv} {v : V} (h : VR K κ ρ H (.fix a dd ks l) v) : v = .ref a ∧ ∀ p, dd = some p → ∃ vs : List (Str × V), H p = some (.xd vs) ∧ vs.map (·.1) = ks ∧ VRs K κ ρ H l (vs.map (·.2)) := by
  simp only [VR] at h
  exact ⟨h.1.1, h.2⟩
/-- isinstance(e, T) -/
theorem le_isE1 {i cn : Nat} {en : Str} {pe p pos : Pos} {T : Expr} {v : V} {cv : Value} {tab : Nat → Option Bool} (hz : Zc cls d oe) (hf : ∃ vs, oe.data = .fields vs) (hcn : cls = .ref (κ cn)) (ht : ∀ n b, tab n = some b → XcC X.K (κ n) ∧ PySem.W.kitOne X.K (.ref (κ n)) cv = some b)
    (hgl : Gl X "isinstance") (hm : X.mg "isinstance" = none) (hvar : PE (X.suite a ((a, oe) :: pn)) (.Name en pe) (tVar i)) (hT : PE (X.suite a ((a, oe) :: pn)) T (tC v)) (hv : ∀ u, RelV v u → u = cv)
    (hs1 : starEach [Expr.Name en pe, T] X.env = (false, eval (Expr.Name en pe) X.env) :: starEach [T] X.env := by rfl) (hs2 : starEach [T] X.env = (false, eval T X.env) :: starEach [] X.env := by rfl) (hpl : (backTo pos (starEach [T] X.env)).any (·.1) = false := by rfl) :
    LE (X.suite a ((a, oe) :: pn)) κ W (.Call (.Name "isinstance" p) [.Name en pe, T] [] pos) (mIsE i a d (tab cn)) := by
  cases et : tab cn with
  | none =>
    refine ⟨fun pins s σ H Q I ⟨ρ, σd, st, R, hE, h⟩ => ?_⟩
    exfalso
    unfold mIsE at h
    split at h
    · split at h <;> exact h
    · exact h
  | some b =>
    obtain ⟨C, hk⟩ := ht _ _ et
    rw [hcn] at hz
    refine PE.by (pe_callB (X := X.suite a ((a, oe) :: pn)) (call_isX C hz hf) hgl hm (by decide +kernel) (pa_cons hvar (pa_cons hT pa_nil hs2) hs1) (by decide) (by decide) hs1 hpl) fun σ H Q ⟨ρ, σd, st, R, hE, h⟩ => ?_
    unfold mIsE at h
    split at h
    · rename_i a' dd ks l eq
      split at h
      · rename_i haa
        obtain ⟨rfl, rfl⟩ := haa
        obtain ⟨u, e1, e2⟩ := hE.at_ _ _ eq
        obtain ⟨rfl, hd⟩ := e2.fixE
        exact ⟨_, e1, v, b, rfl, fun p hp => let ⟨vs, h1, _⟩ := hd p hp; ⟨vs, h1⟩, .inl ⟨cv, hv, hk⟩, h ρ H Step.refl R _ (by simp only [VR])⟩
      · exact h.elim
    · exact h.elim
/-- isinstance(e, (T, ..)) -/
theorem le_isEt {i cn : Nat} {en : Str} {pe p pos pt : Pos} {x1} {es : List Expr} {cs : List V} {cvs : List Value} {tab : Nat → Option Bool} (hz : Zc cls d oe) (hf : ∃ vs, oe.data = .fields vs) (hcn : cls = .ref (κ cn)) (ht : ∀ n b, tab n = some b → XcC X.K (κ n) ∧ PySem.W.kitAny X.K (.ref (κ n)) cvs = some b)
    (hgl : Gl X "isinstance") (hm : X.mg "isinstance" = none) (hvar : PE (X.suite a ((a, oe) :: pn)) (.Name en pe) (tVar i)) (hT : PA (X.suite a ((a, oe) :: pn)) es (tK cs)) (hv : ∀ us, Vals cs us → us = cvs) (hl : cs.length ≤ 1000 := by first | decide | (simp only [List.length]; decide))
    (hs1 : starEach [Expr.Name en pe, .Tuple es x1 pt] X.env = (false, eval (Expr.Name en pe) X.env) :: starEach [.Tuple es x1 pt] X.env := by rfl) (hs2 : starEach [.Tuple es x1 pt] X.env = (false, eval (.Tuple es x1 pt) X.env) :: starEach [] X.env := by rfl) (hpl : (backTo pos (starEach [.Tuple es x1 pt] X.env)).any (·.1) = false := by rfl) :
    LE (X.suite a ((a, oe) :: pn)) κ W (.Call (.Name "isinstance" p) [.Name en pe, .Tuple es x1 pt] [] pos) (mIsE i a d (tab cn)) := by
  cases et : tab cn with
  | none =>
    refine ⟨fun pins s σ H Q I ⟨ρ, σd, st, R, hE, h⟩ => ?_⟩
    exfalso
    unfold mIsE at h
    split at h
    · split at h <;> exact h
    · exact h
  | some b =>
    obtain ⟨C, hk⟩ := ht _ _ et
    rw [hcn] at hz
    refine PE.by (pe_callB (X := X.suite a ((a, oe) :: pn)) (call_isX C hz hf) hgl hm (by decide +kernel) (pa_cons hvar (pa_cons (pe_tupD hT) pa_nil hs2) hs1) (by decide) (by decide) hs1 hpl) fun σ H Q ⟨ρ, σd, st, R, hE, h⟩ => ?_
    unfold mIsE at h
    split at h
    · rename_i a' dd ks l eq
      split at h
      · rename_i haa
        obtain ⟨rfl, rfl⟩ := haa
        obtain ⟨u, e1, e2⟩ := hE.at_ _ _ eq
        obtain ⟨rfl, hd⟩ := e2.fixE
        refine ⟨_, e1, by have := small1000 hl; omega, fun q its hn => ?_⟩
        exact ⟨.ref q, b, rfl, fun p hp => let ⟨vs, h1, _⟩ := hd p hp; ⟨vs, by rw [upd_ne (ne_of_none h1 hn)]; exact h1⟩, .inr ⟨q, its, cs, cvs, rfl, upd_same, hv, hk⟩, h ρ _ (Step.lay hn) (R.lay hn) _ (by simp only [VR])⟩
      · exact h.elim
    · exact h.elim
/-- e.f -/
theorem le_xf {i cn c0 : Nat} {f : Str} {pos : Pos} {e : Expr} (hz : Zc cls d oe) (hf : ∃ vs, oe.data = .fields vs) (hcn : cls = .ref (κ cn)) (T : XfC X.K (κ c0)) (hno : PySem.W.findIn X.K (.ref (κ c0)) f = some none) (hvar : PE (X.suite a ((a, oe) :: pn)) e (tVar i))
    (hb : attributeBase e f X.env (eval e X.env) = eval e X.env := by rfl) : LE (X.suite a ((a, oe) :: pn)) κ W (.Attribute e f pos) (mXf i a d cn c0 f) :=
  PE.by (pe_xf T hno hz hf hvar hb) fun σ H Q ⟨ρ, σd, st, R, hE, h⟩ => by
    unfold mXf at h
    split at h
    · rename_i a' dd ks l eq
      split at h
      · rename_i hc
        obtain ⟨rfl, rfl, hsome, rfl⟩ := hc
        obtain ⟨u, e1, e2⟩ := hE.at_ _ _ eq
        obtain ⟨rfl, hd⟩ := e2.fixE
        cases edd : dd with
        | none => rw [edd] at hsome; cases hsome
        | some p =>
          obtain ⟨vs, h1, h2, h3⟩ := hd p edd
          cases el : (ks.zip l).lookup f with
          | none => rw [el] at h; exact h.elim
          | some w =>
            rw [el] at h
            obtain ⟨y, h4, h5⟩ := look_ok (K := X.K) (κ := κ) (ρ := ρ) (H := H) (f := f) (fs := ks.zip l) (vs := vs) (by rw [h2, List.map_fst_zip]; have := h3.length; rw [← h2]; simp at this ⊢; omega) (by rw [List.map_snd_zip]; exact h3; have := h3.length; rw [← h2]; simp at this ⊢; omega) el
            exact ⟨_, e1, rfl, hcn, p, vs, y, rfl, h1, h4, EndV.ok h R h5⟩
      · exact h.elim
    · exact h.elim
end
end Mid
/-! MidZ: sum, max and min of two, repr (where no other repr is under way), constants of the module's top that are lists of tuples. -/
namespace Mid
open PySem PySem.Spec L2 Classical
open PyProof.Rows (envOfC AllBare IntsAre)
section
variable {X : Cx} {κ : Kap} {W : WX}
theorem L_sum : CallL X κ (rSum X.K) bSum := call1 fun W ρ σ H s v d Q R hv q => by
  cases e : bAny.lstQ d s with
  | none => rw [e] at q; exact q.elim
  | some l =>
    rw [e] at q
    simp only [Option.bind_some] at q
    cases e2 : intsQ l with
    | none => rw [e2] at q; exact q.elim
    | some ns =>
      rw [e2] at q
      obtain ⟨a, vs, rfl, h1, h2⟩ := R.lstE hv e
      obtain ⟨rfl, _⟩ := intsQ_ok h2 e2
      exact ⟨a, ns, rfl, h1, EndV.ok q R (by simp only [VR])⟩
theorem L_max2 : CallL X κ (fun xs H Q => ∃ i j, xs = [.int i, .int j] ∧ Q (.int (if j > i then j else i)) H) bMax2 := call2 fun W ρ σ H s v u d e Q R hv hu q => by
  cases d with
  | int i =>
    cases e with
    | int j => exact ⟨i, j, by rw [hv.int, hu.int], EndV.ok q R (by simp only [VR])⟩
    | _ => exact q.elim
  | _ => cases e <;> exact q.elim
theorem L_min2 : CallL X κ (fun xs H Q => ∃ i j, xs = [.int i, .int j] ∧ Q (.int (if j < i then j else i)) H) bMin2 := call2 fun W ρ σ H s v u d e Q R hv hu q => by
  cases d with
  | int i =>
    cases e with
    | int j => exact ⟨i, j, by rw [hv.int, hu.int], EndV.ok q R (by simp only [VR])⟩
    | _ => exact q.elim
  | _ => cases e <;> exact q.elim
/-- repr of data -/
def rReprD (K : PySem.W.Frag) : List V → Hp → VK → Prop := fun xs H Q => ∃ (a : Addr) (p : PyData), xs = [.ref a] ∧ Dp K H (.ref a) p ∧ p.showable = true ∧ p.hasDict = false ∧ p.depth ≤ 700 ∧ p.shown.length ≤ 2 ^ 24 ∧ Q (.str p.shown) H
theorem call_reprG (hg : X.A.guards = some []) (hu : X.A.units + 702 < cLine) : CallR X (.builtin "repr") (rReprD X.K) := by
  intro pins s σ H xs us Q I r h
  obtain ⟨a, p, rfl, hd, h1, h2, h3, h4, q⟩ := h
  obtain ⟨u, rfl, rx⟩ := vals1 r
  obtain ⟨as, rd⟩ := Dp.reads I p _ u hd rx
  obtain rfl : u = Value.ref a := rx
  refine repr_of_reads' rd h1 (fun z => by rw [h2] at z; cases z) hg (by omega) (fun b o e => e) (fun h' u tk k => ?_) (by rw [sizeLine_eq]; exact h4)
  exact ⟨.str p.shown, H, I.kept (t' := tk) k, ⟨_, rfl⟩, q⟩
theorem L_reprG : CallL X κ (rReprD X.K) bRepr := call1 fun W ρ σ H s v d Q R hv q => by
  cases e : dat s 1500 d with
  | none => rw [e] at q; exact q.elim
  | some p =>
    rw [e] at q
    cases d with
    | tup l =>
      simp only at q
      by_cases hc : p.showable = true ∧ p.hasDict = false ∧ p.depth ≤ 700 ∧ p.shown.length ≤ 2 ^ 24
      · rw [if_pos hc] at q
        obtain ⟨a, vs, rfl, _⟩ := hv.tupE
        exact ⟨a, p, rfl, dat_ok R _ _ _ _ hv e, hc.1, hc.2.1, hc.2.2.1, hc.2.2.2, EndV.ok q R (by simp only [VR])⟩
      · rw [if_neg hc] at q; exact q.elim
    | _ => exact q.elim
/-- a constant of the module's top -/
def GC (K : PySem.W.Frag) (mg : Str → Option Value) (x : Str) (d : Dv) : Prop := ∃ u v, mg x = some u ∧ RelV v u ∧ ∀ (κ : Kap) (ρ : List Addr) (H : Hp), VR K κ ρ H d v
theorem le_gc {x : Str} {pos : Pos} {d : Dv} (hg : Gl X x) (h : GC X.K X.mg x d) (hdb : (x == ("__debug__" : Str)) = false := by decide) : LE X κ W (.Name x pos) (mC d) :=
  let ⟨_, _, hm, r, hv⟩ := h; le_c (pe_glob hg hm r (hd := hdb)) fun ρ H => hv κ ρ H
/-- a tuple of two in K: of whole numbers and None -/
def oiD : Option Int → Dv
  | some i => .int i
  | none => .non
def oiV : Option Int → V
  | some i => .int i
  | none => .non
def OiV : Option Int → Value → Prop
  | some i, u => ∃ t, u = .int i t
  | none, u => u = .none
theorem oi_rel : ∀ {o : Option Int} {u : Value}, OiV o u → RelV (oiV o) u
  | some i, _, h => h
  | none, _, h => h
theorem gc_pairs {K : PySem.W.Frag} {mg : Str → Option Value} {x : Str} {a : Addr} {ts : List (Option Int × Option Int)} {as : List Addr} {cl : Obj} {n : Nat} (hm : mg x = some (.ref a)) (hl : K.lookup a = some cl) (h1 : cl.cls = .type "list") (h2 : cl.dict = none) (h3 : cl.data = .seq (as.map Value.ref).toArray n) (hz : ts.length ≤ 1000)
    (ht : Paired (fun (b : Addr) (t : Option Int × Option Int) => ∃ (o : Obj) (u v : Value) (m : Nat), K.lookup b = some o ∧ o.cls = .type "tuple" ∧ o.dict = none ∧ o.data = .seq #[u, v] m ∧ OiV t.1 u ∧ OiV t.2 v) as ts) :
    GC K mg x (.clst (ts.map fun t => .tup [oiD t.1, oiD t.2])) := by
  refine ⟨.ref a, .ref a, hm, rfl, fun κ ρ H => ?_⟩
  have oi : ∀ o : Option Int, VR K κ ρ H (oiD o) (oiV o) := fun o => by
    cases o with
    | none => simp only [oiD, oiV, VR]
    | some i => simp only [oiD, oiV, VR]
  have hlen : as.length = ts.length := Paired.length ht
  have go : ∀ (as : List Addr) (ts : List (Option Int × Option Int)), Paired (fun (b : Addr) (t : Option Int × Option Int) => ∃ (o : Obj) (u v : Value) (m : Nat), K.lookup b = some o ∧ o.cls = .type "tuple" ∧ o.dict = none ∧ o.data = .seq #[u, v] m ∧ OiV t.1 u ∧ OiV t.2 v) as ts → VRs K κ ρ H (ts.map fun t => .tup [oiD t.1, oiD t.2]) (as.map V.ref) := by
    intro as ts h
    induction h with
    | nil => exact .nil
    | cons hx _ ih =>
      obtain ⟨o, u, v, m, e1, e2, e3, e4, e5, e6⟩ := hx
      refine .cons ?_ ih
      simp only [VR]
      exact ⟨_, [oiV _, oiV _], rfl, .inr ⟨o, _, m, e1, e2, e3, e4, by show 2 ≤ sizeLine; rw [sizeLine_eq]; decide, .cons (oi_rel e5) (.cons (oi_rel e6) .nil)⟩, .cons (oi _) (.cons (oi _) .nil)⟩
  simp only [VR]
  refine ⟨a, as.map V.ref, rfl, .inr ⟨cl, _, n, hl, h1, h2, h3, ?_, ?_⟩, go _ _ ht⟩
  · have := small1000 (n := as.length) (by omega)
    simpa using Nat.le_of_lt this
  · have go2 : ∀ l : List Addr, Vals (l.map V.ref) (l.map Value.ref) := fun l => by
      induction l with
      | nil => exact .nil
      | cons b r ih => exact .cons rfl ih
    simpa using go2 as
end
/-! ### defs that call repr: no other repr is under way -/
/-- as FnOk, where no repr is under way -/
structure FnG (P : Program) (w : World) (K : PySem.W.Frag) (mg : Str → Option Value) (base : Heap) (CX : CXT) (k : Nat) (f : Addr) (fd : FuncData) (ps : List Str) (sp : Sp) : Prop where
  len : ∀ vs H Q E, sp vs H Q E → vs.length = ps.length
  go : ∀ (A : Around) (outer : List Env) (s : Shared) (H : Hp) (args : Args) (us : List Value) (vs : List V) (Q : VK) (E : XK), A.guards = some [] → Room k A → Env0 P w K mg base A outer s H → BindsTo s fd args (ps.zip us) → Vals vs us → sp vs H Q E →
    codeAny (model P w) A (.call (.ref f) args) (CR CX outer P w H s Q E) s
section
variable {P : Program} {w : World} {K : PySem.W.Frag} {mg : Str → Option Value} {base : Heap} {κ : Kap}
theorem FnG.mono {CX : CXT} {j k : Nat} {f : Addr} {fd : FuncData} {ps : List Str} {sp : Sp} (F : FnG P w K mg base CX j f fd ps sp) (h : j ≤ k) : FnG P w K mg base CX k f fd ps sp :=
  ⟨F.len, fun A outer s H args us vs Q E hg hr => F.go A outer s H args us vs Q E hg (hr.mono h)⟩
theorem FnG.imp {CX : CXT} {k : Nat} {f : Addr} {fd : FuncData} {ps : List Str} {sp sp' : Sp} (F : FnG P w K mg base CX k f fd ps sp) (h : ∀ vs H Q E, sp' vs H Q E → sp vs H Q E) : FnG P w K mg base CX k f fd ps sp' :=
  ⟨fun vs H Q E q => F.len vs H Q E (h _ _ _ _ q), fun A outer s H args us vs Q E hg hr he hb hv hs => F.go A outer s H args us vs Q E hg hr he hb hv (h _ _ _ _ hs)⟩
theorem fnG_ok {x qual : Str} {st : Stmt} {f : Addr} {fd : FuncData} {N ps : List Str} {k : Nat} {m : MS} (F : Fun K x qual st f fd) (S : FnScope N ps (defScope st))
    (hb : ∀ (cdv : Value) (A : Around) (outer : List Env) (s : Shared) (H : Hp) (E : XK), (A.deeper (envOfC qual (defScope st) s.heap.objs.size f cdv)).guards = some [] → Room k (A.deeper (envOfC qual (defScope st) s.heap.objs.size f cdv)) → LSs (cxOf CX0 P w K mg base N qual (defScope st) f cdv A outer s H E).nox κ W0 (defBody st) m) :
    FnG P w K mg base CX0 (k + 1) f fd ps (spF0 K κ ps.length (mFun ps.length N.length m)) := by
  obtain ⟨oc, od, kV, doc, pm, an, cdv, ct, osl, rfl, lk, hcd⟩ := F.ex
  refine ⟨fun vs H Q E h => h.1, fun A outer s H args us vs Q E hg hr e0 hbd r hsp => ?_⟩
  obtain ⟨hl, ρ, ds, st', R, hv, h⟩ := hsp
  have ins : ∀ {b : Addr} {o : Obj}, base.get? b = some o → s.heap.get? b = some o := fun {b o} e => (e0.bs b o e).1
  have KX : K.In s.heap := e0.mod.kin.keeps fun b o e => ins e
  refine codeAny_call_function hr.depth (KX _ _ lk) rfl S.co S.gen rfl (PySem.W.codeRec_of KX hcd) (hbd _ _ _ _ ?_)
  refine wpAny_newFunctionEnv_cells S.kind (fun ⟨n, v⟩ hy => (S.par n (List.of_mem_zip hy).1).imp id fun q => ⟨q, PySem.W.cellsFrom_some _ _ _ (.inl q)⟩) fun env he s1 x => ?_
  subst he
  refine ⟨(e0.mod.nolimit.keeps fun b o e => ins e).keeps x.toInCall.keep, codeAny_func ?_⟩
  have I : Inv (cxOf CX0 P w K mg base N qual (defScope st) f cdv A outer s H E) [] (start N vs) H s1 := inv_start S hr.hd e0 hl r x
  have body := (hb cdv A outer s H E hg (hr.deeper _)).nox
  refine wpAny_mono (body.run [] s1 (start N vs) H { nx := fun _ H' => Q .non H', rt := Q } I ⟨ρ, mStart N.length ds, st', R, er_start hv, ?_⟩) (fun fl s' hs => ?_) fun e s' hs => hs
  · unfold mFun at h
    rw [if_pos (by rw [← hv.length]; exact hl)] at h
    cases e : m (mStart N.length ds) st' with
    | nx σ1 s1 => rw [e] at h; exact fun ρ' H' σ' x R hE => h ρ' H' x R _ (by simp only [VR])
    | rt d s1 => rw [e] at h; exact fun ρ' H' v x R hv => h ρ' H' x R v hv
    | er z σ1 s1 => rw [e] at h; exact fun ρ' H' σ' c d x R hE q => h ρ' H' c d x R q
    | ct σ1 s1 => rw [e] at h; exact h.elim
    | bk σ1 s1 => rw [e] at h; exact h.elim
    | bad => rw [e] at h; exact h.elim
  · cases fl with
    | ret u => obtain ⟨v, σ', H', J, rv, q⟩ := hs; exact ⟨v, H', J.os, J.bare, J.base, J.hok, rv, q⟩
    | next => obtain ⟨σ', H', J, q⟩ := hs; exact ⟨.non, H', J.os, J.bare, J.base, J.hok, rfl, q⟩
    | brk => exact hs.choose_spec.choose_spec.2.elim
    | cont => exact hs.choose_spec.choose_spec.2.elim
/-- the def called x does what F does, where no repr is under way -/
def CalG (P : Program) (w : World) (K : PySem.W.Frag) (mg : Str → Option Value) (base : Heap) (κ : Kap) (k : Nat) (x : Str) (n : Nat) (F : MF) : Prop :=
  ∃ (f : Addr) (fd : FuncData) (ps : List Str), FnG P w K mg base CX0 k f fd ps (spF0 K κ n F) ∧ mg x = some (.ref f) ∧ PySem.W.keepIn K (.ref f) = true ∧ Binds K fd ps []
end
section
variable {X : Cx} {κ : Kap} {W : WX} {k n : Nat} {x : Str} {F : MF} {e : Expr} {es : List Expr} {ms : List ME} {p pos : Pos}
theorem pe_callG {sp : Sp} {f : Addr} {fd : FuncData} {ps : List Str} {t : TA} (G : FnG X.prog X.w X.K X.mg X.base CX0 k f fd ps sp) (hgd : X.A.guards = some []) (hr : Room k X.A) (hg : Gl X x) (hm : X.mg x = some (.ref f)) (hk : PySem.W.keepIn X.K (.ref f) = true) (hb : Binds X.K fd ps [])
    (ha : PA X (e :: es) t) (hdb : (x == ("__debug__" : Str)) = false := by decide) (he : starEach (e :: es) X.env = (false, eval e X.env) :: starEach es X.env := by rfl) (hpl : (backTo pos (starEach es X.env)).any (·.1) = false := by rfl) :
    PE X (.Call (.Name x p) (e :: es) [] pos) (tCall sp [] E0 t) := by
  refine ⟨fun pins s σ H Q I h => wpAny_Call_Name_kw (ld_glob I hg hm (PySem.W.callWith_K (h₀ := X.base) I.ok.mod.kin hk (thn (ha.run pos pins s σ H _ I h) fun us s1 ⟨vs, H1, I1, r, q⟩ => ⟨I1.kIn, ?_⟩) he hpl) hdb)⟩
  have q' : sp vs H1 Q E0 := by have : sp (vs ++ []) H1 Q E0 := q; rwa [List.append_nil] at this
  have hl : us.length = ps.length := r.length.symm.trans (G.len _ _ _ _ q')
  have bnd := hb s1 us I1.kIn (by rw [List.append_nil]; exact hl)
  rw [List.append_nil] at bnd
  refine wpAny_call (codeAny_mono (G.go X.A X.stack s1 H1 ⟨us, []⟩ us vs Q E0 hgd hr I1.env0 bnd r q') fun res s' hq => ?_)
  cases res with
  | error er => exact hq.elim
  | ok fl =>
    cases fl with
    | ret u => exact I1.after hq
    | next => exact hq.elim
    | brk => exact hq.elim
    | cont => exact hq.elim
theorem le_calG (c : CalG X.prog X.w X.K X.mg X.base κ k x n F) (hgd : X.A.guards = some []) (hr : Room k X.A) (hg : Gl X x) (ha : LA X κ W (e :: es) ms) (hn : ms.length = n := by rfl)
    (hdb : (x == ("__debug__" : Str)) = false := by decide) (he : starEach (e :: es) X.env = (false, eval e X.env) :: starEach es X.env := by rfl) (hpl : (backTo pos (starEach es X.env)).any (·.1) = false := by rfl) : LE X κ W (.Call (.Name x p) (e :: es) [] pos) (mCall (noE F) ms) := by
  obtain ⟨f, fd, ps, G, hm, hk, hb⟩ := c
  exact PE.by (pe_callG G hgd hr hg hm hk hb ha hdb he hpl) fun σ H Q ⟨ρ, σd, s, R, hEr, q⟩ => ⟨ρ, σd, s, R, hEr, (Fin.args (Fin.bind q)).mono fun ds ρ1 s1 H1 x1 R1 ⟨hnn, h1⟩ vs hvs => by
    show spF0 X.K κ n F (vs ++ []) H1 Q E0
    rw [List.append_nil]
    exact ⟨by rw [hvs.length, hnn, hn], ρ1, ds, s1, R1, hvs, Fin.noEr h1⟩⟩
end
/-! ### the law's end for such a def -/
section
variable {P : Program} {w : World} {K : PySem.W.Frag} {mg mb : Str → Option Value} {k : Nat} {fa a : Addr} {fd : FuncData} {x : Str} {sp : Sp} {s₁ : Shared} {vs : List Value} {ns : List Int}
/-- the abstract heap: nothing but the script's list, where it is none of the module's own -/
structure Alone (K : PySem.W.Frag) (a : Addr) (H : Hp) : Prop where
  only : Only H
  one : ∀ b, H b ≠ none → b = a
  out : H a ≠ none → K.lookup a = none
theorem go_alone (KX : K.In s₁.heap) (hns : s₁.heap.Ns mainGlobals mg) (hb : s₁.heap.Ns builtinsNs mb) (hbb : ∀ x : Str, x ≠ "__name__" → mb x = bootBuiltins x) (hlim : s₁.heap.NoLimit) (hg : s₁.gens = #[])
    (ha : s₁.heap.get? a = some { cls := .type "list", data := .seq vs.toArray }) (hr : Room k callerA) (F : ∀ base : Heap, K.In base → base.Ns mainGlobals mg → FnG P w K mg base CX0 k fa fd [x] sp) (hbind : ∀ (s : Shared) (u : Value), BindsTo s fd ⟨[u], []⟩ [(x, u)])
    {H : Hp} (al : Alone K a H) (hok : HOk P w H s₁.heap) (hsp : sp [.ref a] H (fun v _ => v = .bl true) fun _ _ _ => False) :
    codeAny (model P w) callerA (.call (.ref fa) ⟨[.ref a], []⟩) (fun r s' => r = .ok (.ret (.bool true)) ∧ OldK s₁.heap s'.heap ∧ s'.os = s₁.os ∧ AllBare s'.gens) s₁ := by
  have free : ∀ {b : Addr} {o : Obj} {es : Array DictEntry} {ep : Nat}, s₁.heap.get? b = some o → o.data = .dict es ep → H b = none := fun {b o es ep} e d => Classical.byContradiction fun hn => by
    rw [al.one b hn, ha] at e
    obtain rfl := Option.some.inj e
    cases d
  have nsK : ∀ {b : Addr} {m : Str → Option Value}, s₁.heap.Ns b m → (hidT s₁.heap H).Ns b m := fun ⟨o, es, ep, e, d, r⟩ => ⟨o, es, ep, hidT_get e (free e d), d, r⟩
  have kIn : K.In (hidT s₁.heap H) := fun b o e => hidT_get (KX b o e) (Classical.byContradiction fun hn => by
    obtain rfl := al.one b hn
    rw [al.out hn] at e
    cases e)
  obtain ⟨mc, l1, l2⟩ := hlim
  have e0 : Env0 P w K mg (hidT s₁.heap H) callerA [] s₁ H :=
    { frames := rfl, mod := ⟨kIn, nsK hns, ⟨mb, nsK hb, hbb⟩, ⟨mc, nsK l1, l2⟩⟩, bs := fun b o e => of_hidT e, bsz := Nat.le_of_eq (hidT_size _ _), funs := trivial, frf := fun b hb => absurd (show b ∈ ([] : List Addr) from hb) List.not_mem_nil, hok := hok, bare := .of_eq hg }
  refine codeAny_mono ((F _ kIn (nsK hns)).go callerA [] s₁ H ⟨[.ref a], []⟩ [.ref a] [.ref a] _ _ rfl hr e0 (hbind s₁ (.ref a)) (.cons rfl .nil) hsp) fun r s' h => ?_
  match r, h with
  | .ok (.ret u), h =>
    obtain ⟨v, H', os, bare, un, hok', rv, rfl⟩ := h
    obtain rfl : u = Value.bool true := rv
    refine ⟨rfl, OldK.of_keep fun b o e => ?_, os, bare⟩
    rcases al.only b with z | ⟨ob, xs, z⟩
    · exact un.keep b o e z (fun hm => absurd (show b ∈ ([] : List Addr) from hm) List.not_mem_nil) List.not_mem_nil
    · have e1 := (hok b _ z).1
      rw [e] at e1
      obtain rfl := Option.some.inj e1.symm
      exact (hok' b _ (un.frzs b _ _ z)).1
theorem law_callG (KX : K.In s₁.heap) (hns : s₁.heap.Ns mainGlobals mg) (hb : s₁.heap.Ns builtinsNs mb) (hbb : ∀ x : Str, x ≠ "__name__" → mb x = bootBuiltins x) (hlim : s₁.heap.NoLimit) (hg : s₁.gens = #[])
    (ha : s₁.heap.get? a = some { cls := .type "list", data := .seq vs.toArray }) (hi : IntsAre vs ns) (hl : ns.length ≤ sizeLine) (hr : Room k callerA) (F : ∀ base : Heap, K.In base → base.Ns mainGlobals mg → FnG P w K mg base CX0 k fa fd [x] sp) (hbind : ∀ (s : Shared) (u : Value), BindsTo s fd ⟨[u], []⟩ [(x, u)])
    (hsp : ∀ H : Hp, Only H → SqL K H a (ns.map V.int) → sp [.ref a] H (fun v _ => v = .bl true) fun _ _ _ => False) :
    codeAny (model P w) callerA (.call (.ref fa) ⟨[.ref a], []⟩) (fun r s' => r = .ok (.ret (.bool true)) ∧ OldK s₁.heap s'.heap ∧ s'.os = s₁.os ∧ AllBare s'.gens) s₁ := by
  have rv := vals_ints hi
  by_cases hk : K.lookup a = none
  · -- the script's list is tracked
    have e : ∀ b u, upd (fun _ => none) a (HO.frz { cls := .type "list", data := .seq vs.toArray } (.lst (ns.map V.int))) b = some u → b = a ∧ u = HO.frz { cls := .type "list", data := .seq vs.toArray } (.lst (ns.map V.int)) := fun b u z => by
      by_cases hb : b = a
      · subst hb; rw [upd_same] at z; exact ⟨rfl, (Option.some.inj z).symm⟩
      · rw [upd_ne hb] at z; cases z
    have al : Alone K a (upd (fun _ => none) a (HO.frz { cls := .type "list", data := .seq vs.toArray } (.lst (ns.map V.int)))) :=
      { only := fun b => by
          cases q : upd (fun _ => none) a (HO.frz { cls := .type "list", data := .seq vs.toArray } (.lst (ns.map V.int))) b with
          | none => exact .inl rfl
          | some u => obtain ⟨_, rfl⟩ := e b u q; exact .inr ⟨_, _, rfl⟩
        one := fun b hn => by
          cases q : upd (fun _ => none) a (HO.frz { cls := .type "list", data := .seq vs.toArray } (.lst (ns.map V.int))) b with
          | none => exact absurd q hn
          | some u => exact (e b u q).1
        out := fun _ => hk }
    refine go_alone KX hns hb hbb hlim hg ha hr F hbind al (fun b u z => ?_) (hsp _ al.only (.inl (.inr ⟨_, upd_same⟩)))
    obtain ⟨rfl, rfl⟩ := e b u z
    exact ⟨ha, by rw [List.length_map]; exact hl, vs, _, rv, ha⟩
  · -- it is one of the module's own
    obtain ⟨o, ho⟩ := Option.ne_none_iff_exists'.mp hk
    have e := (KX a o ho).symm.trans ha
    obtain rfl := Option.some.inj e
    have al : Alone K a fun _ => none := ⟨fun _ => .inl rfl, fun b z => absurd rfl z, fun z => absurd rfl z⟩
    exact go_alone KX hns hb hbb hlim hg ha hr F hbind al (fun b u z => by cases z) (hsp _ al.only (.inr ⟨_, vs.toArray, _, ho, rfl, rfl, rfl, by rw [List.size_toArray, hi.length]; exact hl, by simpa using rv⟩))
end
theorem walk_G {l : PySem.W.OpenLaw} {n k : Nat} {q : Program} {loose : List Str} {XP : (Str → Option Value) → Heap → Prop} {YP : World → Heap → Prop} {d : DefRec} {K : Params → PySem.W.Frag} {sp : World → Sp} {x : Str} (hn : l.most = some n) (hn2 : n ≤ sizeLine) (hdf : d.params.defaults = []) (hr : Room k callerA)
    (hY : ∀ (w : World) (h : Heap), YP w h → (K w.params).In h)
    (F : ∀ (w : World) (mg : Str → Option Value) (fa : Addr) (h : Heap), (K w.params).In h → h.Ns mainGlobals mg → mg d.name = some (.ref fa) →
      ∃ fd : FuncData, (∀ (s : Shared) (u : Value), BindsTo s fd ⟨[u], []⟩ [(x, u)]) ∧ ∀ base : Heap, (K w.params).In base → base.Ns mainGlobals mg → FnG l.prog w (K w.params) mg base CX0 k fa fd [x] (sp w))
    (hsp : ∀ (w : World) (H : Hp) (a : Addr) (ns : List Int), ns.length ≤ n → (∀ z ∈ ns, Builtin.Int.intBits z ≤ 1048576) → Only H → SqL (K w.params) H a (ns.map V.int) → sp w [.ref a] H (fun v _ => v = .bl true) fun _ _ _ => False) :
    PySem.W.WalkO q loose XP YP l.row.toRowW d [] (fun f vs => PySem.call f vs) :=
  Att.attach_callB hn hdf fun w s₀ s₁ mg mb fa o pm cd doc a vs ns G Y ho hd hcd hmg hobj hints hlen hbits hg =>
    let ⟨_, hb, hF⟩ := F w mg fa _ (hY w _ Y) G.T.g hmg
    law_callG (hY w _ Y) G.T.g G.T.b G.T.builtins G.T.nolimit hg hobj hints (Nat.le_trans hlen hn2) hr hF hb fun H hO hS => hsp w H a ns hlen hbits hO hS
end Mid
/-! MidG: what the texts that gen.py prints lean on for exceptions. -/
namespace Mid
open PySem PySem.Spec L2 Classical
open PyProof.Rows (envOfC)
section
variable {X : Cx} {κ : Kap} {W : WX} {st : Stmt} {sts : List Stmt}
/-- a statement that is never come to -/
theorem ls_bad : LS X κ W st msBad := ⟨fun pins s σ H D I ⟨ρ, σd, s1, R, hE, h⟩ => h.elim⟩
theorem tkW0 : Takes X W0 := takes0
end
section
variable {K : PySem.W.Frag} {C D : Addr}
/-- the class of an exception, as isinstance asks of another class -/
theorem kit_ref {b : Bool} (h : PySem.W.subIn K (.ref C) (.ref D) = some b) (h2 : PySem.W.isClsIn K D = true) (h3 : PySem.W.typeIn K (.ref D) = some (.type "type")) (hs : PySem.W.subIn K (.ref C) (.ref C) = some true) : PySem.W.kitOne K (.ref C) (.ref D) = some b := by
  by_cases e : C = D
  · subst e
    have : b = true := by rw [hs] at h; exact (Option.some.inj h).symm
    subst this
    unfold PySem.W.kitOne
    rw [if_pos (by simp)]
  · have hne : ((Value.ref C : Value) == Value.ref D) = false := by simp [e]
    unfold PySem.W.kitOne
    rw [hne]
    have e2 : ((PySem.W.clsIn K D).isSome && PySem.W.typeIn K (.ref D) == some (.type "type")) = true := by
      have h2' : (PySem.W.clsIn K D).isSome = true := h2
      rw [h2', h3] <;> rfl
    show (if (false = true) then some true else PySem.W.kitCls K (.ref C) (.ref D)) = _
    rw [if_neg (by decide)]
    show (if ((PySem.W.clsIn K D).isSome && PySem.W.typeIn K (.ref D) == some (.type "type")) = true then PySem.W.subIn K (.ref C) (.ref D) else none) = _
    rw [if_pos e2]; exact h
theorem kit_ty {b : Bool} {T : String} (h : PySem.W.subIn K (.ref C) (.type T) = some b) (hm : PySem.W.kitMeta T = true := by decide) : PySem.W.kitOne K (.ref C) (.type T) = some b := by
  unfold PySem.W.kitOne
  have hne : ((Value.ref C : Value) == Value.type T) = false := by simp
  rw [hne, if_neg (by decide)]
  show (if PySem.W.kitMeta T = true then PySem.W.subIn K (.ref C) (.type T) else none) = _
  rw [if_pos hm]; exact h
theorem exm_ref {b : Bool} (h : PySem.W.subIn K (.ref C) (.ref D) = some b) (h1 : PySem.W.subIn K (.ref D) (.type "BaseException") = some true) (h2 : PySem.W.isClsIn K D = true) (h3 : PySem.W.typeIn K (.ref D) = some (.type "type")) : PySem.W.exmOne K (.ref C) (.ref D) = some b := by
  have e1 : (PySem.W.subIn K (.ref D) (.type "BaseException") == some true) = true := by rw [h1] <;> rfl
  have e2 : ((PySem.W.clsIn K D).isSome && PySem.W.typeIn K (.ref D) == some (.type "type")) = true := by
    have h2' : (PySem.W.clsIn K D).isSome = true := h2
    rw [h2', h3] <;> rfl
  show (if (PySem.W.subIn K (.ref D) (.type "BaseException") == some true) = true then (if ((PySem.W.clsIn K D).isSome && PySem.W.typeIn K (.ref D) == some (.type "type")) = true then PySem.W.subIn K (.ref C) (.ref D) else none) else none) = some b
  rw [if_pos e1, if_pos e2]
  exact h
theorem any_nil {t : Value} : PySem.W.kitAny K t [] = some false := rfl
theorem any_yes {t c : Value} {r : List Value} (h : PySem.W.kitOne K t c = some true) : PySem.W.kitAny K t (c :: r) = some true := by unfold PySem.W.kitAny; rw [h]
theorem any_no {t c : Value} {r : List Value} {b : Bool} (h : PySem.W.kitOne K t c = some false) (q : PySem.W.kitAny K t r = some b) : PySem.W.kitAny K t (c :: r) = some b := by unfold PySem.W.kitAny; rw [h]; exact q
end
/-- what TooMany keeps -/
def okMany : V → Prop := fun v => ∃ i : Int, v = .int i ∧ i.natAbs.log2 < 1920 ∧ 10 + (Str.ofString (toString i)).length ≤ 2 ^ 24
theorem ok_many {K : PySem.W.Frag} {κ : Kap} (ρ : List Addr) (H : Hp) (d : Dv) (v : V) (h : smallI d = true) (hv : VR K κ ρ H d v) : okMany v := by
  cases d with
  | int i =>
    unfold smallI at h
    simp only [decide_eq_true_eq] at h
    exact ⟨i, by rw [hv.int], h.1, h.2⟩
  | _ => unfold smallI at h; exact absurd h (by simp)
def okAny : V → Prop := fun _ => True
def anyD : Dv → Bool := fun _ => true
theorem ok_any {K : PySem.W.Frag} {κ : Kap} (ρ : List Addr) (H : Hp) (d : Dv) (v : V) (h : anyD d = true) (hv : VR K κ ρ H d v) : okAny v := trivial
/-- "more than " + str(most) -/
def ttMany : TE := tOp (fun x y H Q => ∃ i j, x = .str i ∧ y = .str j ∧ i.length + j.length ≤ sizeLine ∧ Q (.str (i ++ j)) H) (tC (.str "more than ")) (tCB (fun xs H Q => ∃ i, xs = [.int i] ∧ i.natAbs.log2 < 1920 ∧ Q (.str (toString i)) H) (tCons (tVar 1) tNil))
theorem htt_many (a : Addr) (v : V) (H : Hp) (Q : VK) (ok : okMany v) (h : ∀ x, Q x H) : ttMany [some (.ref a), some v] H Q := by
  obtain ⟨i, rfl, h1, h2⟩ := ok
  refine ⟨.int i, rfl, i, rfl, h1, _, _, rfl, rfl, ?_, h _⟩
  rw [sizeLine_eq]
  have : ("more than " : Str).length = 10 := by decide +kernel
  rw [this]
  exact h2
end Mid
namespace Mid
open PySem PySem.Spec L2
theorem hu702 {A : Around} {k : Nat} (hr : Room k A) (hk : 32 ≤ k) : A.units + 702 < cLine := by have := hr.un; omega
theorem hu65m {A : Around} {k : Nat} (hr : Room k A) {x : Option Value} : (A.mark x).units + 65 < cLine := (show A.units + 65 < cLine from hu65 hr)
theorem unitsm {A : Around} {k : Nat} (hr : Room k A) {x : Option Value} : (A.mark x).units + 64 < cLine := (show A.units + 64 < cLine from hr.units)
end Mid
/-! MidP: stepping through the plain model by simp. -/
namespace Mid
open PySem
noncomputable section
section
variable {α β : Type} {s s' : Mst} {l m : List Dv} {i j : Int} {n k p : Nat} {d e : Dv} {o : MO} {a b : String} {x y : Str}
/-! texts that are written out -/
theorem chars_inj {a b : String} (h : a.toList.map Char.toNat = b.toList.map Char.toNat) : a = b := by
  have : a.toList = b.toList := by
    refine List.map_inj_right (f := Char.toNat) (fun c d e => ?_) |>.mp h
    exact Char.toNat_inj.mp e
  exact String.toList_inj.mp this
theorem ofString_inj : Str.ofString a = Str.ofString b ↔ a = b := by
  constructor
  · intro h
    rw [Str.ofString_eq_toList, Str.ofString_eq_toList] at h
    injection h with h
    exact chars_inj (by simpa using h)
  · intro h; rw [h]
theorem strOk_lit : PyData.strOk (Str.ofString a) = true := by
  unfold PyData.strOk
  rw [Str.ofString_eq_toList, Array.all_eq_true']
  intro z hz
  simp at hz
  obtain ⟨c, _, e⟩ := hz
  have h := c.valid
  have h2 : c.toNat.isValidChar := h
  simp only [decide_eq_true_eq]
  rw [← e]
  rcases h2 with h | h
  · omega
  · exact h.2
theorem shaped_str (h : PyData.strOk x = true) : SeqAt.shaped (.str x) = true := by
  simp [SeqAt.shaped, PyData.canLay0, PyData.depth, h]
theorem oEq_str (h : PyData.strOk x = true) (g : PyData.strOk y = true) : oEq (.str x) (.str y) s = .ok (.bl (decide (x = y))) s := by
  unfold oEq oCmpD
  simp only [dat, shaped_str h, shaped_str g, and_self, if_true, PyData.eqv]
  rw [Bool.beq_eq_decide_eq]
theorem oNe_str (h : PyData.strOk x = true) (g : PyData.strOk y = true) : oNe (.str x) (.str y) s = .ok (.bl (!decide (x = y))) s := by
  unfold oNe oCmpD
  simp only [dat, shaped_str h, shaped_str g, and_self, if_true, PyData.eqv]
  rw [Bool.beq_eq_decide_eq]
theorem oEq_lit : oEq (.str (Str.ofString a)) (.str (Str.ofString b)) s = .ok (.bl (decide (a = b))) s := by
  rw [oEq_str strOk_lit strOk_lit]; simp only [ofString_inj]
theorem oNe_lit : oNe (.str (Str.ofString a)) (.str (Str.ofString b)) s = .ok (.bl (!decide (a = b))) s := by
  rw [oNe_str strOk_lit strOk_lit]; simp only [ofString_inj]
/-! arithmetic of small numbers -/
theorem log2_lt64 {i : Int} (h : i.natAbs < 18446744073709551616) : i.natAbs.log2 < 64 := by
  by_cases z : i.natAbs = 0
  · rw [z]; simp
  · exact Nat.log2_lt z |>.mpr h
theorem oMul_sm (h : i.natAbs < 18446744073709551616) (g : j.natAbs < 18446744073709551616) : oMul (.int i) (.int j) s = .ok (.int (i * j)) s :=
  oMul_int (by have := log2_lt64 h; have := log2_lt64 g; omega)
theorem oFdiv_sm (h : 0 < j) (g : j < 18446744073709551616) : oFdiv (.int i) (.int j) s = .ok (.int (i / j)) s :=
  oFdiv_int h (by have := log2_lt64 (i := j) (by omega); omega)
/-! places -/
def getL : Option MO → Int → Option Dv
  | some (.lst l), i => atQ l i
  | some (.dK kvs), i => kval kvs (.inl i)
  | _, _ => none
theorem oGet_loc : oGet (.loc n) (.int i) s = ofO (getL s[n]? i) s := by
  unfold oGet getQ
  cases h : s[n]? with
  | none => simp only [h]; rfl
  | some o => cases o <;> (simp only [h]; rfl)
theorem getL_lst : getL (some (.lst l)) i = atQ l i := id rfl
theorem oGet_tupI : oGet (.tup l) (.int i) s = ofO (atQ l i) s := id rfl
theorem atQ_0 {x : α} {r : List α} : atQ (x :: r) 0 = some x := atQ_nat (b := 0) rfl
theorem atQ_1 {x y : α} {r : List α} : atQ (x :: y :: r) 1 = some y := atQ_nat (b := 1) rfl
theorem atQ_2 {x y z : α} {r : List α} : atQ (x :: y :: z :: r) 2 = some z := atQ_nat (b := 2) rfl
theorem atQ_3 {x y z w : α} {r : List α} : atQ (x :: y :: z :: w :: r) 3 = some w := atQ_nat (b := 3) rfl
theorem getS_lt (h : n < s.length) : (s.set n o)[n]? = some o := List.getElem?_set_self h
theorem getS_ne (h : k ≠ n) : (s.set k o)[n]? = s[n]? := List.getElem?_set_ne h
theorem getS_ne' (h : n ≠ k) : (s.set k o)[n]? = s[n]? := List.getElem?_set_ne (Ne.symm h)
theorem getA_lt {t : Mst} (h : n < s.length) : (s ++ t)[n]? = s[n]? := List.getElem?_append_left h
theorem getA_0 {t : Mst} : (s ++ t)[s.length]? = t[0]? := look_new0
theorem itSeq_loc : itSeq (.loc n) s = match s[n]? with
    | some (.lst l) => .ok ⟨l, [(n, l)]⟩ s
    | _ => .bad := id rfl
theorem seqOf_loc : seqOf (.loc n) s = match s[n]? with
    | some (.lst l) => some l
    | _ => none := id rfl
theorem bLen_e : bLen [d] s = ofO ((lenQ d s).map fun (n : Nat) => Dv.int (n : Int)) s := by
  unfold bLen f1
  simp only
  cases lenQ d s <;> rfl
theorem lenQ_loc : lenQ (.loc n) s = match s[n]? with
    | some (.lst l) => some l.length
    | some (.dK kvs) => some kvs.length
    | some (.dN kvs) => some kvs.length
    | _ => none := id rfl
theorem lenQ_tup : lenQ (.tup l) s = some l.length := id rfl
def putL : Option MO → Int → Dv → Option MO
  | some (.lst l), i, e => (ixQ l.length i).map fun k => .lst (l.set k e)
  | some (.dK kvs), i, e => @ite _ (kvs.length < 2 ^ 24) (Classical.propDecidable _) (some (.dK (kput kvs (.inl i) e))) none
  | _, _, _ => none
def setO (n : Nat) (s : Mst) : Option MO → Rm Unit
  | some o => .ok () (s.set n o)
  | none => .bad
theorem setO_to {Q : Unit → Mst → Prop} : (setO n s (some o)).to Q = Q () (s.set n o) := id rfl
theorem oPut_loc : oPut (.loc n) (.int i) e s = setO n s (putL s[n]? i e) := by
  unfold oPut putQ
  cases h : s[n]? with
  | none => simp only [h]; rfl
  | some o =>
    cases o with
    | lst l => simp only [h, putL]; cases ixQ l.length i <;> rfl
    | dK kvs => simp only [h, keyQ, putL]; by_cases h : kvs.length < 2 ^ 24 <;> simp only [h, if_true, if_false] <;> rfl
    | dN kvs => simp only [h]; rfl
    | ins C fs => simp only [h]; rfl
theorem putL_n (h : k < l.length) : putL (some (.lst l)) (k : Int) e = some (.lst (l.set k e)) := by
  show (ixQ l.length (k : Int)).map _ = _; rw [ixQ_nat h]; rfl
theorem putL_0 {x : Dv} : putL (some (.lst (x :: l))) 0 e = some (.lst (e :: l)) := putL_n (k := 0) (by simp)
theorem putL_1 {x y : Dv} : putL (some (.lst (x :: y :: l))) 1 e = some (.lst (x :: e :: l)) := putL_n (k := 1) (by simp)
theorem putL_2 {x y z : Dv} : putL (some (.lst (x :: y :: z :: l))) 2 e = some (.lst (x :: y :: e :: l)) := putL_n (k := 2) (by simp)
theorem oPow_18 : oPow (.int 10) (.int 18) s = .ok (.int 1000000000000000000) s := by rw [oPow_int (by decide)]; rfl
theorem w_disp0 {σ : Men} {Q : Dv → Mst → Prop} : (mDisp [] σ s).to Q = Q (.loc s.length) (s ++ [.dK []]) := id rfl
theorem seq_k {a b : MS} {σ : Men} {N : Men → Mst → Prop} {R : Dv → Mst → Prop} {C B : Men → Mst → Prop} (h : ∀ K : Men → Mst → Prop, (∀ σ s, (b σ s).to N R C B → K σ s) → (a σ s).to K R C B) : (msSeq a b σ s).to N R C B := by
  rw [w_seq]; exact h _ fun _ _ z => z
theorem ixQ_lt {a : Nat} (h : 0 ≤ i) (g : i < a) : ixQ a i = some i.toNat := by unfold ixQ; rw [if_pos h, if_pos g]
theorem bTuple_e : bTuple [d] s = ofO ((seqOf d s).map .tup) s := id rfl
theorem bInt_bl (c : Bool) : bInt [.bl c] s = .ok (.int (if c = true then 1 else 0)) s := by cases c <;> rfl
theorem bInt_int : bInt [.int i] s = .ok (.int i) s := id rfl
theorem toO {Q : α → Mst → Prop} (o : Option α) (d : α) (h : o = some d) : (ofO o s).to Q = Q d s := by rw [h]; rfl
theorem set0 {o : Option Dv} {r : Men} {v : Option Dv} : List.set (o :: r) 0 v = v :: r := id rfl
theorem setS {o : Option Dv} {r : Men} {v : Option Dv} : List.set (o :: r) (k + 1) v = o :: List.set r k v := id rfl
theorem ofO_to {Q : α → Mst → Prop} (d : α) : (ofO (some d) s).to Q = Q d s := id rfl
theorem if_k {t : MT} {a b : MS} {σ : Men} {N : Men → Mst → Prop} {R : Dv → Mst → Prop} {C B : Men → Mst → Prop} (h : ∀ KA KB : Mst → Prop, (∀ s, (a σ s).to N R C B → KA s) → (∀ s, (b σ s).to N R C B → KB s) → (t σ s).to (fun c s => if c = true then KA s else KB s)) : (msIf t a b σ s).to N R C B := by
  rw [w_if]; exact h _ _ (fun _ z => z) (fun _ z => z)
end
/-- what `simp only [wpA, wpB, wpC, *]` goes by -/
theorem wpA : (type_of% @w_seq) ∧ (type_of% @w_nx) ∧ (type_of% @w_brk) ∧ (type_of% @w_cnt) ∧ (type_of% @w_set) ∧ (type_of% @w_asg) ∧ (type_of% @w_exp) ∧ (type_of% @w_ret) ∧ (type_of% @w_retN) ∧ (type_of% @w_if) ∧ (type_of% @w_put) ∧ (type_of% @w_for) ∧ (type_of% @v0) ∧ (type_of% @vS) ∧ (type_of% @mC_eq) ∧ (type_of% @w_op) ∧ (type_of% @w_un) ∧ (type_of% @w_tup) ∧ (type_of% @w_lst) ∧ (type_of% @w_call) ∧ (type_of% @w_noE) ∧ (type_of% @w_meth) ∧ (type_of% @w_and) ∧ (type_of% @w_or) ∧ (type_of% @w_not) ∧ (type_of% @w_ife) ∧ (type_of% @w_lc) ∧ (type_of% @w_slice) ∧ (type_of% @w_disp0) ∧ (type_of% @w_listRg) ∧ (type_of% @w_args0) ∧ (type_of% @w_argsS) ∧ (type_of% @w_pairs0) ∧ (type_of% @w_pairsS) ∧ (type_of% @w_poN) ∧ (type_of% @w_poS) ∧ (type_of% @w_tval) ∧ (type_of% @w_tand) ∧ (type_of% @w_tor) ∧ (type_of% @w_tnot) ∧ (type_of% @w_tyes) ∧ (type_of% @w_iseq) ∧ (type_of% @w_irng1) ∧ (type_of% @w_irng2) ∧ (type_of% @w_izip) ∧ (type_of% @w_ienum) ∧ (type_of% @w_gN) ∧ (type_of% @w_gT) ∧ (type_of% @w_gTp) ∧ (type_of% @w_gE0) ∧ (type_of% @w_gES) ∧ (type_of% @w_chain) ∧ (type_of% @wipe0) ∧ (type_of% @wipeS) ∧ (type_of% @to_ok) ∧ (type_of% @to_bad) ∧ (type_of% @to_noEr) ∧ (type_of% @ofO_to) ∧ (type_of% @toB_bl) ∧ (type_of% @toI_int) ∧ (type_of% @toS_str) ∧ (type_of% @set0) ∧ (type_of% @setS) := ⟨@w_seq, @w_nx, @w_brk, @w_cnt, @w_set, @w_asg, @w_exp, @w_ret, @w_retN, @w_if, @w_put, @w_for, @v0, @vS, @mC_eq, @w_op, @w_un, @w_tup, @w_lst, @w_call, @w_noE, @w_meth, @w_and, @w_or, @w_not, @w_ife, @w_lc, @w_slice, @w_disp0, @w_listRg, @w_args0, @w_argsS, @w_pairs0, @w_pairsS, @w_poN, @w_poS, @w_tval, @w_tand, @w_tor, @w_tnot, @w_tyes, @w_iseq, @w_irng1, @w_irng2, @w_izip, @w_ienum, @w_gN, @w_gT, @w_gTp, @w_gE0, @w_gES, @w_chain, @wipe0, @wipeS, @to_ok, @to_bad, @to_noEr, @ofO_to, @toB_bl, @toI_int, @toS_str, @set0, @setS⟩
theorem wpB : (type_of% @oAdd_int) ∧ (type_of% @oSub_int) ∧ (type_of% @oMod_int) ∧ (type_of% @oFdiv_sm) ∧ (type_of% @oMul_sm) ∧ (type_of% @oLt_int) ∧ (type_of% @oLe_int) ∧ (type_of% @oGt_int) ∧ (type_of% @oGe_int) ∧ (type_of% @uNeg_int) ∧ (type_of% @oIsN_non) ∧ (type_of% @oNotN_non) ∧ (type_of% @isNonQ_tup) ∧ (type_of% @isNonQ_non) ∧ (type_of% @isNonQ_int) ∧ (type_of% @isNonQ_bl) ∧ (type_of% @isNonQ_str) ∧ (type_of% @isNonQ_loc) ∧ (type_of% @oEq_int) ∧ (type_of% @oNe_int) ∧ (type_of% @oEq_bl) ∧ (type_of% @oNe_bl) ∧ (type_of% @oEq_lit) ∧ (type_of% @oNe_lit) ∧ (type_of% @oGet_loc) ∧ (type_of% @getL_lst) ∧ (type_of% @oGet_tupI) ∧ (type_of% @atQ_0) ∧ (type_of% @atQ_1) ∧ (type_of% @atQ_2) ∧ (type_of% @atQ_3) ∧ (type_of% @getS_lt) ∧ (type_of% @getS_ne) ∧ (type_of% @getS_ne') ∧ (type_of% @getA_lt) ∧ (type_of% @getA_0) ∧ (type_of% @itSeq_loc) ∧ (type_of% @itSeq_tup) ∧ (type_of% @itSeq_clst) ∧ (type_of% @seqOf_loc) ∧ (type_of% @seqOf_tup) ∧ (type_of% @bLen_e) ∧ (type_of% @lenQ_loc) ∧ (type_of% @lenQ_tup) ∧ (type_of% @oPut_loc) ∧ (type_of% @setO_to) ∧ (type_of% @putL_0) ∧ (type_of% @putL_1) ∧ (type_of% @putL_2) ∧ (type_of% @putL_n) ∧ (type_of% @oPow_18) ∧ (type_of% @bTuple_e) ∧ (type_of% @bInt_bl) ∧ (type_of% @bInt_int) := ⟨@oAdd_int, @oSub_int, @oMod_int, @oFdiv_sm, @oMul_sm, @oLt_int, @oLe_int, @oGt_int, @oGe_int, @uNeg_int, @oIsN_non, @oNotN_non, @isNonQ_tup, @isNonQ_non, @isNonQ_int, @isNonQ_bl, @isNonQ_str, @isNonQ_loc, @oEq_int, @oNe_int, @oEq_bl, @oNe_bl, @oEq_lit, @oNe_lit, @oGet_loc, @getL_lst, @oGet_tupI, @atQ_0, @atQ_1, @atQ_2, @atQ_3, @getS_lt, @getS_ne, @getS_ne', @getA_lt, @getA_0, @itSeq_loc, @itSeq_tup, @itSeq_clst, @seqOf_loc, @seqOf_tup, @bLen_e, @lenQ_loc, @lenQ_tup, @oPut_loc, @setO_to, @putL_0, @putL_1, @putL_2, @putL_n, @oPow_18, @bTuple_e, @bInt_bl, @bInt_int⟩
theorem wpC : (∀ {α β : Type} (f : α → β) (a : α), Option.map f (some a) = some (f a)) ∧ (∀ {α β : Type} (f : α → Option β) (a : α), Option.bind (some a) f = f a) ∧ (∀ {α : Type} (a : α) (l : List α), (a :: l).length = l.length + 1) ∧ (∀ {α : Type}, ([] : List α).length = 0) ∧ (∀ {α β : Type} (f : α → β) (l : List α), (l.map f).length = l.length) ∧ (∀ {α : Type} (l m : List α), (l ++ m).length = l.length + m.length) ∧ (∀ {α : Type} (l : List α) (i : Nat) (a : α), (l.set i a).length = l.length) ∧ (∀ {α : Type} (a : α) (l : List α), (a :: l)[0]? = some a) ∧ (∀ (p : Prop) [Decidable p], (decide p = true) = p) ∧ (∀ (p : Prop) [Decidable p], (decide p = false) = ¬ p) ∧ (∀ b : Bool, ((!b) = true) = (b = false)) ∧ (∀ (p : Prop), (True ∧ p) = p) ∧ (∀ (p : Prop), (p ∧ True) = p) :=
  ⟨fun _ _ => id rfl, fun _ _ => id rfl, fun _ _ => id rfl, id rfl, fun f l => List.length_map f, fun l m => List.length_append, fun l i a => List.length_set, fun _ _ => id rfl, fun p _ => decide_eq_true_eq, fun p _ => propext decide_eq_false_iff_not, fun b => by cases b <;> simp, true_and, and_true⟩
end
end Mid
/-! MidQ: texts, ranges, dicts of texts. -/
namespace Mid
open PySem
noncomputable section
variable {s s' : Mst} {Q : Dv → Mst → Prop} {n k : Nat} {i j : Int}
theorem strOk_app {x y : Str} (h : PyData.strOk x = true) (g : PyData.strOk y = true) : PyData.strOk (x ++ y) = true := by
  unfold PyData.strOk at *
  rw [Array.all_eq_true'] at *
  intro z hz
  have : (x ++ y).cps = x.cps ++ y.cps := rfl
  rw [this, Array.mem_append] at hz
  rcases hz with hz | hz
  · exact h z hz
  · exact g z hz
theorem strOk_none : PyData.strOk (Str.ofString "") = true := by
  have : (Str.ofString "").cps = #[] := rfl
  simp [PyData.strOk, this]
theorem strOk_join {ys : List Str} (h : ∀ y ∈ ys, PyData.strOk y = true) : PyData.strOk (Str.join (Str.ofString "") ys) = true := by
  induction ys with
  | nil => exact strOk_none
  | cons a r ih =>
    cases r with
    | nil => exact h a (by simp)
    | cons b r => exact strOk_app (strOk_app (h a (by simp)) strOk_none) (ih fun y hy => h y (by simp [hy]))
theorem join_len {ys : List Str} {k : Nat} (h : ∀ y ∈ ys, y.length = 1) : (Str.join (Str.ofString "") ys).length = ys.length := by
  have la : ∀ x y : Str, (x ++ y).length = x.length + y.length := fun x y => Array.size_append
  induction ys with
  | nil => rfl
  | cons a r ih =>
    cases r with
    | nil => exact h a (by simp)
    | cons b r =>
      have e : Str.join (Str.ofString "") (a :: b :: r) = a ++ Str.ofString "" ++ Str.join (Str.ofString "") (b :: r) := rfl
      rw [e, la, la, ih fun y hy => h y (by simp [hy]), h a (by simp)]
      have : (Str.ofString "").length = 0 := rfl
      simp [this]; omega
def abcS : Str := Str.ofString "abcdefghijklmnopqrstuvwxyz"
def chD (k : Nat) : Str := ⟨#[97 + k]⟩
theorem abc_at {k : Nat} (h : k < 26) : oGet (.str abcS) (nD k) s = .ok (.str (chD k)) s := by
  have e : abcS.cps.toList = (List.range 26).map (97 + ·) := by decide
  have : getQ (.str abcS) (nD k) s = some (.str (chD k)) := by
    unfold getQ nD
    simp only
    rw [if_pos (by decide), atQ_nat (b := k) (z := 97 + k) (by rw [e, List.getElem?_map, List.getElem?_range h]; rfl)]
    rfl
  unfold oGet
  rw [this]; rfl
theorem chD_ok {k : Nat} (h : k < 26) : PyData.strOk (chD k) = true := by
  unfold PyData.strOk chD
  simp
  omega
theorem chD_inj {a b : Nat} (h : chD a = chD b) : a = b := by
  unfold chD at h
  have := congrArg (fun x : Str => x.cps[0]?) h
  simp at this
  exact this

theorem toO' {α : Type} {Q : α → Mst → Prop} {o : Option α} {d : α} (h : o = some d) (q : Q d s) : (ofO o s).to Q := by rw [h]; exact q
theorem nD_e : nD k = .int (k : Int) := id rfl
theorem r62P (h : -1000000000000 ≤ j) (g : j ≤ 1000000000000) : (-(2 ^ 62) ≤ j ∧ j < 2 ^ 62) = True := by
  have e2 : (2 : Int) ^ 62 = 4611686018427387904 := by decide
  simp only [eq_iff_iff, iff_true]; omega
theorem lt24 (h : n < 16777216) : (n < 2 ^ 24) = True := by simp only [eq_iff_iff, iff_true]; omega
theorem le24 (h : n ≤ 16777216) : (n ≤ 2 ^ 24) = True := by simp only [eq_iff_iff, iff_true]; omega
theorem rngI_len {lo : Int} : (rngI lo n).length = n := by simp [rngI]
theorem rngI_0 : rngI 0 n = (List.range n).map nD := by unfold rngI nD; simp
def tyO : Option MO → String
  | some (.lst _) => "list"
  | some (.dK _) => "dict"
  | some (.dN _) => "dict"
  | _ => "?"
theorem tyO_lst {l : List Dv} : tyO (some (.lst l)) = "list" := id rfl
theorem tyO_dK {l : List (KeyQ × Dv)} : tyO (some (.dK l)) = "dict" := id rfl
theorem tyO_dN {l : List (NestedKey × Dv)} : tyO (some (.dN l)) = "dict" := id rfl
theorem tyQ_loc : tyQ (.loc n) s = tyO s[n]? := by
  unfold tyQ tyO
  cases h : s[n]? with
  | none => simp only [h]
  | some o => cases o <;> simp only [h]
theorem ty_str {x : Str} : (tyQ (.str x) s = "str") = True := by simp
theorem ty_eq {a : String} : (a = a) = True := eq_self a
theorem w_par {i j : Nat} {a b : ME} {σ : Men} {N : Men → Mst → Prop} {R : Dv → Mst → Prop} {C B : Men → Mst → Prop} : (msPar i j a b σ s).to N R C B = (a σ s).to fun d s1 => (b σ s1).to fun d' s2 => N ((σ.set i (some d)).set j (some d')) s2 := by
  unfold msPar; rw [to_st]; congr; funext d s1; rw [to_st]; rfl
theorem slQ_tup {l : List Dv} {lo hi : Option Int} : slQ (.tup l) lo hi s = .ok (.tup (cutQ l lo hi)) s := id rfl
theorem cut_2 {α : Type} {a b : α} {l : List α} : cutQ (a :: b :: l) (some 2) none = l := by
  unfold cutQ sIxQ
  simp
theorem wpD : ((!true) = false) ∧ ((!false) = true) ∧ ((false = true) = False) ∧ ((true = true) = True) ∧ (∀ {α : Type} (a b : α), (if True then a else b) = a) ∧ (∀ {α : Type} (a b : α), (if False then a else b) = b) ∧ (∀ (a b : Prop), (if True then a else b) = a) ∧ (∀ (a b : Prop), (if False then a else b) = b) ∧ (type_of% @slQ_tup) ∧ (type_of% @cut_2) ∧ (type_of% @w_par) ∧ (type_of% @tyO_lst) ∧ (type_of% @tyO_dK) ∧ (type_of% @tyO_dN) ∧ (type_of% @tyQ_loc) ∧ (type_of% @ty_str) ∧ (type_of% @ty_eq) ∧ (type_of% @nD_e) ∧ (type_of% @r62P) ∧ (type_of% @lt24) ∧ (type_of% @le24) ∧ (type_of% @rngI_len) ∧ (∀ n : Nat, (n : Int).toNat = n) ∧ (∀ n : Nat, (List.range n).length = n) :=
  ⟨rfl, rfl, by simp, by simp, fun _ _ => by simp, fun _ _ => by simp, fun _ _ => by simp, fun _ _ => by simp, @slQ_tup, @cut_2, @w_par, @tyO_lst, @tyO_dK, @tyO_dN, @tyQ_loc, @ty_str, @ty_eq, @nD_e, @r62P, @lt24, @le24, @rngI_len, fun _ => id rfl, fun n => List.length_range⟩
/-- small letters -/
def LowS (x : Str) : Prop := 1 ≤ x.length ∧ x.length ≤ 6 ∧ ∀ c ∈ x.cps.toList, 97 ≤ c ∧ c < 123
theorem LowS.ok {x : Str} (h : LowS x) : PyData.strOk x = true := by
  unfold PyData.strOk
  rw [Array.all_eq_true']
  intro z hz
  have := h.2.2 z (by simpa using hz)
  simp; omega
instance {x : Str} : Decidable (LowS x) := by unfold LowS; infer_instance
theorem join_low {ks : List Nat} (h : 1 ≤ ks.length) (h6 : ks.length ≤ 6) (hk : ∀ k ∈ ks, k < 26) : LowS (Str.join (Str.ofString "") (ks.map chD)) := by
  have l : (Str.join (Str.ofString "") (ks.map chD)).length = ks.length := by rw [join_len (k := 0) (by intro y hy; obtain ⟨k, _, rfl⟩ := List.mem_map.mp hy; rfl), List.length_map]
  refine ⟨by omega, by omega, ?_⟩
  have cp : ∀ ks : List Nat, (Str.join (Str.ofString "") (ks.map chD)).cps.toList = ks.map (97 + ·) := by
    intro ks
    induction ks with
    | nil => rfl
    | cons a r ih =>
      cases r with
      | nil => rfl
      | cons b r =>
        have e : Str.join (Str.ofString "") ((a :: b :: r).map chD) = chD a ++ Str.ofString "" ++ Str.join (Str.ofString "") ((b :: r).map chD) := rfl
        rw [e]
        show ((chD a).cps ++ (Str.ofString "").cps ++ (Str.join (Str.ofString "") ((b :: r).map chD)).cps).toList = _
        rw [Array.toList_append, ih]
        rfl
  rw [cp]
  intro c hc
  obtain ⟨k, hk', rfl⟩ := List.mem_map.mp hc
  have := hk k hk'
  omega
theorem tJoin_chs {ks : List Nat} (h : s[n]? = some (.lst ((ks.map chD).map Dv.str))) (hl : ks.length < 1000) : tJoin [.str (Str.ofString ""), .loc n] s = .ok (.str (Str.join (Str.ofString "") (ks.map chD))) s := by
  show (match Dv.str (Str.ofString ""), (seqOf (.loc n) s).bind strsQ with | .str z, some ys => _ | _, _ => _) = _
  rw [seqOf_lst h, Option.bind_some, strsQ_map]
  refine if_pos ?_
  have e0 : (Str.ofString "").length = 0 := rfl
  have e1 : ((ks.map chD).map (·.length)).sum = ks.length := by
    clear h hl
    induction ks with
    | nil => rfl
    | cons a r ih => rw [List.map_cons, List.map_cons, List.sum_cons, ih, List.length_cons]; show 1 + _ = _; omega
  rw [e1, e0]; omega
/-! a dict that is a set of texts -/
def setD (ks : List Str) : MO := .dK (ks.map fun x => (.inr x, .bl true))
theorem set_put {ks : List Str} {x : Str} (h : s[n]? = some (setD ks)) (hl : ks.length < 1000) : oPut (.loc n) (.str x) (.bl true) s = .ok () (s.set n (setD (if x ∈ ks then ks else ks ++ [x]))) := by
  rw [oPut_dict h (q := .inr x) rfl (by rw [List.length_map]; omega)]
  congr 2
  unfold setD
  congr 1
  by_cases hx : x ∈ ks
  · rw [if_pos hx]
    unfold kput
    rw [if_pos (by rw [List.any_eq_true]; exact ⟨(.inr x, .bl true), List.mem_map.mpr ⟨x, hx, rfl⟩, by simp⟩)]
    rw [List.map_map]
    refine List.map_congr_left fun y hy => ?_
    simp only [Function.comp]
    split <;> simp_all
  · rw [if_neg hx, kput_new (by simp [hx])]
    simp
theorem sorted_set {ks : List Str} (h : s[n]? = some (setD ks)) (hl : ks.length < 64) (h0 : ks ≠ []) : bSorted [.loc n] s = .ok (.loc s.length) (s ++ [.lst ((srtS ks).map .str)]) := by
  show (match bAny.lstQ (.loc n) s with | some l => _ | none => _) = _
  unfold setD at h
  have e1 : bAny.lstQ (.loc n) s = none := by unfold bAny.lstQ; simp only; rw [h]
  have e2 : ((ks.map fun x => ((Sum.inr x : KeyQ), Dv.bl true)).map fun kv => keyD kv.1) = ks.map .str := by
    rw [List.map_map]; rfl
  rw [e1]
  simp only [h, e2]
  cases ks with
  | nil => exact absurd rfl h0
  | cons a r =>
    have e : intsQ ((a :: r).map Dv.str) = none := rfl
    simp only [srtQ, e, strsQ_map, if_pos hl]
    rfl
end
end Mid
namespace Mid
open PySem Classical
noncomputable section
def ht_WayError : Nat → Option Bool
  | 2 => some true
  | _ => none
def tb_law_e_told_opened_0 : Nat → Option Bool
  | 2 => some false
  | _ => none
def tb_law_e_told_opened_1 : Nat → Option Bool
  | 2 => some true
  | _ => none
def tb_law_e_told_opened_2 : Nat → Option Bool
  | 2 => some true
  | _ => none
def m_parts_of : MS := msSeq (msIf (mtOr (mtVal (mOp oEq (mOp oGet (mVar 0) (mC (.int 0))) (mC (.str (Str.ofString "row"))))) (mtVal (mOp oEq (mOp oGet (mVar 0) (mC (.int 0))) (mC (.str (Str.ofString "pick")))))) (msRet (mOp oGet (mVar 0) (mC (.int 1)))) (msNx))
    (msSeq (msIf (mtVal (mOp oEq (mOp oGet (mVar 0) (mC (.int 0))) (mC (.str (Str.ofString "times"))))) (msRet (mTup [mOp oGet (mVar 0) (mC (.int 1))])) (msNx))
    (msRet (mTup [])))
def f_parts_of : MF := mFun 1 1 m_parts_of
def m_pieces_opened (fself : MF) : MS := msSeq (msSet 2 (mLc (miSeq (mCall (noE f_parts_of) [mVar 0])) (gN 1) (mtYes) (mCall (noE fself) [mVar 1]) [1]))
    (msSeq (msIf (mtOr (mtVal (mOp oNe (mOp oGet (mVar 0) (mC (.int 0))) (mC (.str (Str.ofString "times"))))) (mtVal (mOp oIn (mTup [mOp oGet (mVar 0) (mC (.int 2)), mOp oGet (mVar 0) (mC (.int 3))]) (mC (.clst [.tup [.int 0, .int 1], .tup [.int 0, .non], .tup [.int 1, .non]]))))) (msRet (mOp oAdd (mC (.int 1)) (mCall bSum [mVar 2]))) (msNx))
    (msSeq (msSet 1 (mOp oGet (mVar 2) (mC (.int 0))))
    (msSeq (msPar 3 4 (mOp oGet (mVar 0) (mC (.int 2))) (mOp oGet (mVar 0) (mC (.int 3))))
    (msSeq (msIf (mtVal (mOp oIsN (mVar 4) (mC .non))) (msRet (mOp oAdd (mC (.int 2)) (mOp oMul (mVar 3) (mVar 1)))) (msNx))
    (msSeq (msSet 5 (mOp oSub (mVar 4) (mVar 3)))
    (msSeq (msSet 6 (mIf (mtVal (mOp oEq (mVar 5) (mC (.int 0)))) (mC (.int 0)) (mOp oSub (mOp oMul (mVar 5) (mOp oAdd (mVar 1) (mC (.int 2)))) (mC (.int 1)))))
    (msRet (mOp oAdd (mOp oAdd (mOp oMul (mVar 3) (mVar 1)) (mVar 6)) (mCall bInt [mOp oGt (mOp oAdd (mVar 3) (mCall bInt [mOp oGt (mVar 5) (mC (.int 0))])) (mC (.int 1))])))))))))
def f_pieces_opened : Nat → MF
  | 0 => fun _ _ => .bad
  | n + 1 => mFun 1 7 (m_pieces_opened (f_pieces_opened n))
def m_put_in_a_row : MS := msRet (mIf (mtVal (mOp oEq (mCall bLen [mVar 0]) (mC (.int 1)))) (mOp oGet (mVar 0) (mC (.int 0))) (mTup [mC (.str (Str.ofString "row")), mCall bTuple [mVar 0]]))
def f_put_in_a_row : MF := mFun 1 1 m_put_in_a_row
def m_laid_out : MS := msSeq (msIf (mtVal (mOp oIn (mTup [mVar 1, mVar 2]) (mC (.clst [.tup [.int 0, .int 1], .tup [.int 0, .non], .tup [.int 1, .non]])))) (msRet (mTup [mC (.str (Str.ofString "times")), mVar 0, mVar 1, mVar 2])) (msNx))
    (msSeq (msIf (mtVal (mOp oIsN (mVar 2) (mC .non))) (msRet (mCall (noE f_put_in_a_row) [mOp oAdd (mOp oMul (mLst [mVar 0]) (mOp oSub (mVar 1) (mC (.int 1)))) (mLst [mTup [mC (.str (Str.ofString "times")), mVar 0, mC (.int 1), mC .non]])])) (msNx))
    (msSeq (msSet 3 (mLst []))
    (msSeq (msFor (miRng1 (mOp oSub (mVar 2) (mVar 1))) (gN 4) (msSet 3 (mLst [mTup [mC (.str (Str.ofString "times")), mCall (noE f_put_in_a_row) [mOp oAdd (mLst [mVar 0]) (mVar 3)], mC (.int 0), mC (.int 1)]])))
    (msRet (mCall (noE f_put_in_a_row) [mOp oAdd (mOp oMul (mLst [mVar 0]) (mVar 1)) (mVar 3)])))))
def f_laid_out : MF := mFun 3 5 m_laid_out
def m_opened_inside (fself : MF) : MS := msSeq (msIf (mtVal (mOp oEq (mOp oGet (mVar 0) (mC (.int 0))) (mC (.str (Str.ofString "sign"))))) (msRet (mVar 0)) (msNx))
    (msSeq (msIf (mtVal (mOp oEq (mOp oGet (mVar 0) (mC (.int 0))) (mC (.str (Str.ofString "times"))))) (msRet (mCall (noE f_laid_out) [mCall (noE fself) [mOp oGet (mVar 0) (mC (.int 1))], mOp oGet (mVar 0) (mC (.int 2)), mOp oGet (mVar 0) (mC (.int 3))])) (msNx))
    (msRet (mTup [mOp oGet (mVar 0) (mC (.int 0)), mCall bTuple [mLc (miSeq (mOp oGet (mVar 0) (mC (.int 1)))) (gN 1) (mtYes) (mCall (noE fself) [mVar 1]) [1]]])))
def f_opened_inside : Nat → MF
  | 0 => fun _ _ => .bad
  | n + 1 => mFun 1 2 (m_opened_inside (f_opened_inside n))
def m_opened : MS := msSeq (msIf (mtVal (mOp oGt (mCall (noE (f_pieces_opened 12)) [mVar 0]) (mC (.int 300)))) (msRaiseI 2 "most" smallI (mC (.int 300))) (msNx))
    (msRet (mCall (noE (f_opened_inside 12)) [mVar 0]))
def f_opened : MF := mFun 1 1 m_opened
def m_law_e_pen : MS := msRet (mLst [mCall bList [mSlice (mVar 0) (poN) (poS (mC (.int 63)))], mC (.int 0), mC (.int 0)])
def f_law_e_pen : MF := mFun 1 1 m_law_e_pen
def m_law_e_take : MS := msSeq (msIf (mtVal (mOp oLt (mOp oGet (mVar 0) (mC (.int 2))) (mVar 1))) (msSeq (msSet 2 (mOp oGet (mVar 0) (mC (.int 1))))
    (msSeq (msSet 3 (mC (.int 0)))
    (msSeq (msIf (mtVal (mOp oLt (mVar 2) (mCall bLen [mOp oGet (mVar 0) (mC (.int 0))]))) (msSet 3 (mOp oGet (mOp oGet (mVar 0) (mC (.int 0))) (mVar 2))) (msIf (mtVal (mOp oGt (mCall bLen [mOp oGet (mVar 0) (mC (.int 0))]) (mC (.int 0)))) (msSet 3 (mOp oMod (mOp oGet (mOp oGet (mVar 0) (mC (.int 0))) (mOp oMod (mOp oMul (mVar 2) (mC (.int 5))) (mCall bLen [mOp oGet (mVar 0) (mC (.int 0))]))) (mC (.int 1000000007)))) (msNx)))
    (msSeq (msPut oPut (mVar 0) (mC (.int 1)) (mOp oAdd (mVar 2) (mC (.int 1))))
    (msSeq (msPut oPut (mVar 0) (mC (.int 2)) (mVar 3))
    (msIf (mtVal (mOp oLt (mVar 3) (mOp oPow (mC (.int 10)) (mC (.int 18))))) (msSeq (msSet 4 (mOp oMod (mOp oAdd (mOp oAdd (mOp oMul (mOp oMod (mVar 3) (mC (.int 2147483629))) (mC (.int 48271))) (mOp oMul (mVar 2) (mC (.int 69621)))) (mC (.int 101))) (mC (.int 2147483587))))
    (msSeq (msSet 4 (mOp oMod (mOp oAdd (mOp oAdd (mOp oMul (mVar 4) (mVar 4)) (mOp oMul (mVar 2) (mC (.int 40014)))) (mC (.int 7))) (mC (.int 2147483563))))
    (msPut oPut (mVar 0) (mC (.int 2)) (mOp oAdd (mOp oMul (mVar 4) (mC (.int 2147483549))) (mOp oMod (mOp oAdd (mOp oMul (mVar 4) (mVar 4)) (mOp oMul (mC (.int 31)) (mVar 2))) (mC (.int 2147483549))))))) (msNx))))))) (msNx))
    (msSeq (msSet 5 (mOp oMod (mOp oGet (mVar 0) (mC (.int 2))) (mVar 1)))
    (msSeq (msPut oPut (mVar 0) (mC (.int 2)) (mOp oFdiv (mOp oGet (mVar 0) (mC (.int 2))) (mVar 1)))
    (msRet (mVar 5))))
def f_law_e_take : MF := mFun 2 6 m_law_e_take
def m_law_e_signs : MS := msSeq (msSet 1 (mCall (noE f_law_e_take) [mVar 0, mC (.int 8)]))
    (msSeq (msIf (mtVal (mOp oLt (mVar 1) (mC (.int 4)))) (msRet (mOp oGet (mLst [mLst [mC (.str (Str.ofString "a")), mC (.str (Str.ofString "b"))], mLst [mC (.str (Str.ofString "a")), mC (.str (Str.ofString "ab")), mC (.str (Str.ofString "b"))], mLst [mC (.str (Str.ofString "b")), mC (.str (Str.ofString "ba")), mC (.str (Str.ofString "c"))], mLst [mC (.str (Str.ofString "z")), mC (.str (Str.ofString "zz")), mC (.str (Str.ofString "zzzzzz"))]]) (mVar 1))) (msNx))
    (msSeq (msSet 2 (mC (.str (Str.ofString "abcdefghijklmnopqrstuvwxyz"))))
    (msSeq (msSet 3 (mDisp []))
    (msSeq (msFor (miRng1 (mOp oAdd (mC (.int 2)) (mOp oMod (mVar 1) (mC (.int 2))))) (gN 4) (msSeq (msSet 5 (mLc (miRng1 (mOp oAdd (mC (.int 1)) (mCall (noE f_law_e_take) [mVar 0, mC (.int 6)]))) (gN 6) (mtYes) (mOp oGet (mVar 2) (mCall (noE f_law_e_take) [mVar 0, mC (.int 26)])) [6]))
    (msPut oPut (mVar 3) (mMeth "str" tJoin (mC (.str (Str.ofString ""))) [mVar 5]) (mC (.bl true)))))
    (msRet (mCall bSorted [mVar 3]))))))
def f_law_e_signs : MF := mFun 1 7 m_law_e_signs
def m_law_e_form (fself : MF) : MS := msSeq (msSet 4 (mCall (noE f_law_e_take) [mVar 0, mC (.int 9)]))
    (msSeq (msIf (mtOr (mtVal (mOp oEq (mVar 2) (mC (.int 0)))) (mtVal (mOp oLt (mVar 4) (mC (.int 2))))) (msRet (mTup [mC (.str (Str.ofString "sign")), mOp oGet (mVar 1) (mCall (noE f_law_e_take) [mVar 0, mCall bLen [mVar 1]])])) (msNx))
    (msSeq (msIf (mtAnd (mtVal (mOp oLt (mVar 4) (mC (.int 5)))) (mtVal (mOp oGt (mVar 3) (mC (.int 0))))) (msSeq (msSet 5 (mCall (noE fself) [mVar 0, mVar 1, mOp oSub (mVar 2) (mC (.int 1)), mOp oSub (mVar 3) (mC (.int 1))]))
    (msSeq (msSet 6 (mLst [mTup [mC (.int 0), mC (.int 1)], mTup [mC (.int 0), mC .non], mTup [mC (.int 1), mC .non], mTup [mC (.int 0), mC (.int 2)], mTup [mC (.int 1), mC (.int 2)], mTup [mC (.int 2), mC (.int 2)], mTup [mC (.int 1), mC (.int 3)], mTup [mC (.int 2), mC (.int 3)], mTup [mC (.int 2), mC .non], mTup [mC (.int 1), mC (.int 1)], mTup [mC (.int 0), mC (.int 3)]]))
    (msRet (mOp oAdd (mTup [mC (.str (Str.ofString "times")), mVar 5]) (mOp oGet (mVar 6) (mCall (noE f_law_e_take) [mVar 0, mC (.int 11)])))))) (msNx))
    (msSeq (msIf (mtVal (mOp oLt (mVar 4) (mC (.int 7)))) (msSeq (msSet 7 (mCall (noE f_law_e_take) [mVar 0, mC (.int 4)]))
    (msRet (mTup [mC (.str (Str.ofString "row")), mCall bTuple [mLc (miRng1 (mVar 7)) (gN 8) (mtYes) (mCall (noE fself) [mVar 0, mVar 1, mOp oSub (mVar 2) (mC (.int 1)), mVar 3]) [8]]]))) (msNx))
    (msSeq (msSet 7 (mOp oAdd (mC (.int 1)) (mCall (noE f_law_e_take) [mVar 0, mC (.int 3)])))
    (msRet (mTup [mC (.str (Str.ofString "pick")), mCall bTuple [mLc (miRng1 (mVar 7)) (gN 8) (mtYes) (mCall (noE fself) [mVar 0, mVar 1, mOp oSub (mVar 2) (mC (.int 1)), mVar 3]) [8]]]))))))
def f_law_e_form : Nat → MF
  | 0 => fun _ _ => .bad
  | n + 1 => mFun 4 9 (m_law_e_form (f_law_e_form n))
def m_law_e_opened (fself : MF) : MS := msSeq (msIf (mtVal (mOp oEq (mOp oGet (mVar 0) (mC (.int 0))) (mC (.str (Str.ofString "sign"))))) (msRet (mVar 0)) (msNx))
    (msSeq (msIf (mtVal (mOp oNe (mOp oGet (mVar 0) (mC (.int 0))) (mC (.str (Str.ofString "times"))))) (msRet (mTup [mOp oGet (mVar 0) (mC (.int 0)), mCall bTuple [mLc (miSeq (mOp oGet (mVar 0) (mC (.int 1)))) (gN 7) (mtYes) (mCall (noE fself) [mVar 7]) [7]]])) (msNx))
    (msSeq (msSet 1 (mCall (noE fself) [mOp oGet (mVar 0) (mC (.int 1))]))
    (msSeq (msAsg (gT [gN 2, gN 3]) (mSlice (mVar 0) (poS (mC (.int 2))) (poN)))
    (msSeq (msIf (mtVal (mOp oIn (mTup [mVar 2, mVar 3]) (mLst [mTup [mC (.int 0), mC (.int 1)], mTup [mC (.int 0), mC .non], mTup [mC (.int 1), mC .non]]))) (msRet (mTup [mC (.str (Str.ofString "times")), mVar 1, mVar 2, mVar 3])) (msNx))
    (msSeq (msIf (mtVal (mOp oIsN (mVar 3) (mC .non))) (msRet (mTup [mC (.str (Str.ofString "row")), mOp oAdd (mOp oMul (mTup [mVar 1]) (mOp oSub (mVar 2) (mC (.int 1)))) (mTup [mTup [mC (.str (Str.ofString "times")), mVar 1, mC (.int 1), mC .non]])])) (msNx))
    (msSeq (msSet 4 (mOp oMul (mTup [mVar 1]) (mVar 2)))
    (msSeq (msIf (mtVal (mOp oGt (mVar 3) (mVar 2))) (msSeq (msSet 5 (mTup [mC (.str (Str.ofString "times")), mVar 1, mC (.int 0), mC (.int 1)]))
    (msSeq (msFor (miRng1 (mOp oSub (mOp oSub (mVar 3) (mVar 2)) (mC (.int 1)))) (gN 6) (msSet 5 (mTup [mC (.str (Str.ofString "times")), mTup [mC (.str (Str.ofString "row")), mTup [mVar 1, mVar 5]], mC (.int 0), mC (.int 1)])))
    (msSet 4 (mOp oAdd (mVar 4) (mTup [mVar 5]))))) (msNx))
    (msRet (mIf (mtVal (mOp oEq (mCall bLen [mVar 4]) (mC (.int 1)))) (mOp oGet (mVar 4) (mC (.int 0))) (mTup [mC (.str (Str.ofString "row")), mVar 4]))))))))))
def f_law_e_opened : Nat → MF
  | 0 => fun _ _ => .bad
  | n + 1 => mFun 1 8 (m_law_e_opened (f_law_e_opened n))
def m_law_e_size (fself : MF) : MS := msSeq (msIf (mtVal (mOp oEq (mOp oGet (mVar 0) (mC (.int 0))) (mC (.str (Str.ofString "sign"))))) (msRet (mC (.int 1))) (msNx))
    (msSeq (msIf (mtVal (mOp oNe (mOp oGet (mVar 0) (mC (.int 0))) (mC (.str (Str.ofString "times"))))) (msRet (mOp oAdd (mC (.int 1)) (mCall bSum [mLc (miSeq (mOp oGet (mVar 0) (mC (.int 1)))) (gN 6) (mtYes) (mCall (noE fself) [mVar 6]) [6]]))) (msNx))
    (msSeq (msSet 1 (mCall (noE fself) [mOp oGet (mVar 0) (mC (.int 1))]))
    (msSeq (msAsg (gT [gN 2, gN 3]) (mSlice (mVar 0) (poS (mC (.int 2))) (poN)))
    (msSeq (msIf (mtVal (mOp oIn (mTup [mVar 2, mVar 3]) (mLst [mTup [mC (.int 0), mC (.int 1)], mTup [mC (.int 0), mC .non], mTup [mC (.int 1), mC .non]]))) (msRet (mOp oAdd (mC (.int 1)) (mVar 1))) (msNx))
    (msSeq (msIf (mtVal (mOp oIsN (mVar 3) (mC .non))) (msRet (mOp oAdd (mOp oAdd (mOp oAdd (mC (.int 1)) (mOp oMul (mOp oSub (mVar 2) (mC (.int 1))) (mVar 1))) (mC (.int 1))) (mVar 1))) (msNx))
    (msSeq (msSet 4 (mC (.int 0)))
    (msSeq (msFor (miRng1 (mOp oSub (mVar 3) (mVar 2))) (gN 5) (msSet 4 (mOp oAdd (mOp oAdd (mOp oAdd (mC (.int 1)) (mVar 1)) (mVar 4)) (mCall bInt [mOp oGt (mVar 4) (mC (.int 0))]))))
    (msRet (mOp oAdd (mOp oAdd (mOp oMul (mVar 2) (mVar 1)) (mVar 4)) (mCall bInt [mOp oGt (mOp oAdd (mVar 2) (mCall bInt [mOp oGt (mVar 3) (mVar 2)])) (mC (.int 1))]))))))))))
def f_law_e_size : Nat → MF
  | 0 => fun _ _ => .bad
  | n + 1 => mFun 1 7 (m_law_e_size (f_law_e_size n))
def m_law_e_great : MS := msSeq (msSet 2 (mCall (noE (f_law_e_form 12)) [mVar 0, mVar 1, mC (.int 2), mC (.int 1)]))
    (msSeq (msFor (miRng1 (mCall (noE f_law_e_take) [mVar 0, mC (.int 3)])) (gN 3) (msSeq (msSet 4 (mCall (noE f_law_e_take) [mVar 0, mC (.int 13)]))
    (msSeq (msSet 5 (mOp oGet (mLst [mC .non, mCall bMax2 [mC (.int 1), mVar 4], mC (.int 12), mCall bMin2 [mC (.int 12), mOp oAdd (mCall bMax2 [mC (.int 1), mVar 4]) (mC (.int 1))]]) (mCall (noE f_law_e_take) [mVar 0, mC (.int 4)])))
    (msSeq (msIf (mtVal (mOp oEq (mCall (noE f_law_e_take) [mVar 0, mC (.int 2)]) (mC (.int 0)))) (msAsg (gT [gN 4, gN 5]) (mOp oGet (mLst [mTup [mC (.int 0), mC (.int 3)], mTup [mC (.int 1), mC (.int 4)], mTup [mC (.int 3), mC .non], mTup [mC (.int 2), mC (.int 5)], mTup [mC (.int 0), mC (.int 12)], mTup [mC (.int 1), mC (.int 12)], mTup [mC (.int 1), mC (.int 1)]]) (mCall (noE f_law_e_take) [mVar 0, mC (.int 7)]))) (msNx))
    (msSeq (msSet 2 (mTup [mC (.str (Str.ofString "times")), mVar 2, mVar 4, mVar 5]))
    (msSeq (msSet 6 (mCall (noE f_law_e_take) [mVar 0, mC (.int 4)]))
    (msIf (mtVal (mOp oLt (mVar 6) (mC (.int 2)))) (msSet 2 (mOp oGet (mLst [mTup [mC (.str (Str.ofString "row")), mTup [mVar 2, mTup [mC (.str (Str.ofString "sign")), mOp oGet (mVar 1) (mC (.int 0))]]], mTup [mC (.str (Str.ofString "pick")), mTup [mTup [mC (.str (Str.ofString "sign")), mOp oGet (mVar 1) (mUn uNeg (mC (.int 1)))], mVar 2]]]) (mVar 6))) (msNx))))))))
    (msRet (mVar 2)))
def f_law_e_great : MF := mFun 2 7 m_law_e_great
def m_law_e_told_opened : MS := msSeq (msSet 1 (mTup [mC (.str (Str.ofString "odd")), mC .non]))
    (msSeq (tryAs 2 (msSet 1 (mTup [mC (.str (Str.ofString "told")), mCall f_opened [mVar 0]])) ht_WayError (fun a d cn => msSeq (msSet 3 (mLst [mIsE 2 a d (tb_law_e_told_opened_0 cn), mNot (mIsE 2 a d (tb_law_e_told_opened_1 cn))]))
    (msIf (mtAnd (mtVal (mIsE 2 a d (tb_law_e_told_opened_2 cn))) (mtVal (mOp oNotIn (mC (.bl true)) (mVar 3)))) (msSet 1 (mTup [mC (.str (Str.ofString "many")), mXf 2 a d cn 2 "most"])) (msNx))))
    (msRet (mVar 1)))
def f_law_e_told_opened : MF := mFun 1 4 m_law_e_told_opened
def m_law_e_opened_right : MS := msSeq (msSet 1 (mTup [mC (.str (Str.ofString "many")), mC (.int 300)]))
    (msSeq (msIf (mtVal (mOp oLe (mCall (noE (f_law_e_size 12)) [mVar 0]) (mC (.int 300)))) (msSet 1 (mTup [mC (.str (Str.ofString "told")), mCall (noE (f_law_e_opened 12)) [mVar 0]])) (msNx))
    (msSeq (msSet 2 (mCall bRepr [mVar 0]))
    (msSeq (msFor (miRng1 (mC (.int 2))) (gN 3) (msIf (mtOr (mtVal (mOp oNe (mCall bRepr [mCall (noE f_law_e_told_opened) [mVar 0]]) (mCall bRepr [mVar 1]))) (mtVal (mOp oNe (mCall bRepr [mVar 0]) (mVar 2)))) (msRet (mC (.bl false))) (msNx)))
    (msRet (mC (.bl true))))))
def f_law_e_opened_right : MF := mFun 1 4 m_law_e_opened_right
def m_law : MS := msSeq (msSet 1 (mCall (noE f_law_e_pen) [mVar 0]))
    (msSeq (msFor (miRng1 (mC (.int 5))) (gN 2) (msIf (mtNot (mtVal (mCall (noE f_law_e_opened_right) [mCall (noE f_law_e_great) [mVar 1, mCall (noE f_law_e_signs) [mVar 1]]]))) (msRet (mC (.bl false))) (msNx)))
    (msSeq (msSet 3 (mTup [mC (.str (Str.ofString "sign")), mOp oGet (mCall (noE f_law_e_signs) [mVar 1]) (mC (.int 0))]))
    (msSeq (msSet 4 (mTup [mC (.str (Str.ofString "times")), mVar 3, mC (.int 0), mC (.int 12)]))
    (msSeq (msFor (miSeq (mLst [mC (.int 1), mC (.int 2)])) (gN 5) (msSeq (msSet 6 (mTup [mC (.str (Str.ofString "row")), mOp oAdd (mTup [mVar 4, mTup [mC (.str (Str.ofString "times")), mVar 3, mC (.int 0), mC (.int 6)]]) (mOp oMul (mTup [mVar 3]) (mVar 5))]))
    (msSeq (msSet 7 (mTup [mC (.str (Str.ofString "row")), mOp oAdd (mOp oMul (mTup [mVar 4]) (mC (.int 7))) (mTup [mVar 6])]))
    (msIf (mtOr (mtVal (mOp oNe (mCall (noE (f_law_e_size 12)) [mVar 7]) (mOp oAdd (mC (.int 299)) (mVar 5)))) (mtNot (mtVal (mCall (noE f_law_e_opened_right) [mVar 7])))) (msRet (mC (.bl false))) (msNx)))))
    (msRet (mC (.bl true)))))))
def f_law : MF := mFun 1 8 m_law
end
end Mid
namespace Mid
open PySem PySem.Spec L2 Classical
open PyProof.Rows (envOfC)
namespace Tk77
def topS (i : Nat) : Stmt := PySem.Challenge.pw_soleway_k77_forms_opened.main.body.getD i (.Pass ⟨0, 0, 0, 0⟩)
/-- the built-in names that the text doesn't take -/
structure Zs (K : PySem.W.Frag) (mg : Str → Option Value) : Prop where
  z_ValueError : mg "ValueError" = none
  z_int : mg "int" = none
  z_isinstance : mg "isinstance" = none
  z_len : mg "len" = none
  z_list : mg "list" = none
  z_max : mg "max" = none
  z_min : mg "min" = none
  z_range : mg "range" = none
  z_repr : mg "repr" = none
  z_sorted : mg "sorted" = none
  z_sum : mg "sum" = none
  z_tuple : mg "tuple" = none
  v_PLAIN : GC K mg "PLAIN" (.clst [.tup [.int 0, .int 1], .tup [.int 0, .non], .tup [.int 1, .non]])
  v_MOST_PIECES : ∃ u, mg "MOST_PIECES" = some u ∧ RelV (.int 300) u
/-- the exceptions -/
structure Es (K : PySem.W.Frag) (mg : Str → Option Value) (κ : Kap) : Prop where
  g_TooWide : mg "TooWide" = some (.ref (κ 3))
  g_NoText : mg "NoText" = some (.ref (κ 1))
  g_NoSign : mg "NoSign" = some (.ref (κ 5))
  g_NoRow : mg "NoRow" = some (.ref (κ 6))
  g_NotOnce : mg "NotOnce" = some (.ref (κ 4))
  g_NoName : mg "NoName" = some (.ref (κ 7))
  g_TooMany : mg "TooMany" = some (.ref (κ 2))
  g_WayError : mg "WayError" = some (.ref (κ 0))
  x_TooMany : XcC K (κ 2)
  n_TooMany : PySem.W.findIn K (.ref (κ 2)) "most" = some none
  k_TooMany : PySem.W.keepIn K (.ref (κ 2)) = true
  b_TooMany : PySem.W.subIn K (.ref (κ 2)) (.type "BaseException") = some true
  t_TooMany : PySem.W.typeIn K (.ref (κ 2)) = some (.type "type")
  kit_TooMany_NoName : PySem.W.kitOne K (.ref (κ 2)) (.ref (κ 7)) = some false
  kit_TooMany_NotOnce : PySem.W.kitOne K (.ref (κ 2)) (.ref (κ 4)) = some false
  kit_TooMany_NoRow : PySem.W.kitOne K (.ref (κ 2)) (.ref (κ 6)) = some false
  kit_TooMany_NoSign : PySem.W.kitOne K (.ref (κ 2)) (.ref (κ 5)) = some false
  kit_TooMany_NoText : PySem.W.kitOne K (.ref (κ 2)) (.ref (κ 1)) = some false
  kit_TooMany_TooWide : PySem.W.kitOne K (.ref (κ 2)) (.ref (κ 3)) = some false
  kit_TooMany_TooMany : PySem.W.kitOne K (.ref (κ 2)) (.ref (κ 2)) = some true
  kit_TooMany_ValueError : PySem.W.kitOne K (.ref (κ 2)) (.type "ValueError") = some true
  exm_TooMany_WayError : PySem.W.exmOne K (.ref (κ 2)) (.ref (κ 0)) = some true
section
variable {K : PySem.W.Frag} {mg : Str → Option Value} {κ : Kap}
theorem ht_WayError_ok (E : Es K mg κ) : ∀ n b, ht_WayError n = some b → PySem.W.exmOne K (.ref (κ n)) (.ref (κ 0)) = some b := fun n b h => by
  unfold ht_WayError at h; split at h
  · cases h; exact E.exm_TooMany_WayError
  · cases h
theorem tb_law_e_told_opened_0_ok (E : Es K mg κ) : ∀ n b, tb_law_e_told_opened_0 n = some b → XcC K (κ n) ∧ PySem.W.kitAny K (.ref (κ n)) [.ref (κ 7), .ref (κ 4), .ref (κ 6), .ref (κ 5), .ref (κ 1), .ref (κ 3)] = some b := fun n b h => by
  unfold tb_law_e_told_opened_0 at h; split at h
  · cases h; exact ⟨E.x_TooMany, any_no E.kit_TooMany_NoName (any_no E.kit_TooMany_NotOnce (any_no E.kit_TooMany_NoRow (any_no E.kit_TooMany_NoSign (any_no E.kit_TooMany_NoText (any_no E.kit_TooMany_TooWide (any_nil))))))⟩
  · cases h
theorem tb_law_e_told_opened_1_ok (E : Es K mg κ) : ∀ n b, tb_law_e_told_opened_1 n = some b → XcC K (κ n) ∧ PySem.W.kitOne K (.ref (κ n)) (.type "ValueError") = some b := fun n b h => by
  unfold tb_law_e_told_opened_1 at h; split at h
  · cases h; exact ⟨E.x_TooMany, E.kit_TooMany_ValueError⟩
  · cases h
theorem tb_law_e_told_opened_2_ok (E : Es K mg κ) : ∀ n b, tb_law_e_told_opened_2 n = some b → XcC K (κ n) ∧ PySem.W.kitOne K (.ref (κ n)) (.ref (κ 2)) = some b := fun n b h => by
  unfold tb_law_e_told_opened_2 at h; split at h
  · cases h; exact ⟨E.x_TooMany, E.kit_TooMany_TooMany⟩
  · cases h
end
section
variable {P : Program} {w : World} {K : PySem.W.Frag} {mg : Str → Option Value} {base : Heap} {κ : Kap}
abbrev s_TooMany_init : Stmt := inClass (topS 3) 0
theorem sc_TooMany_init : FnScope ["self", "most"] ["self", "most"] (defScope s_TooMany_init) := ⟨rfl, rfl, rfl, by decide +kernel, rfl, by decide +kernel, by decide +kernel⟩
set_option maxHeartbeats 4000000 in
theorem okI_TooMany {f : Addr} {fd : FuncData} {mc : Value} (F : Fun K "__init__" "TooMany.__init__" s_TooMany_init f fd) (OE : OexC K (κ 2)) (hno : PySem.W.findIn K (.ref (κ 2)) "most" = some none) (gW : mg "WayError" = some (.ref (κ 0))) (rW : ClX.CRead K (κ 0) mc) (vV : PySem.W.findCls K (.ref (κ 0)) mc "__init__" = some (.val (.builtin "ValueError.__init__"))) (gC : mg "TooMany" = some (.ref (κ 2))) (iC : PySem.W.findIn K (.ref (κ 2)) "__init__" = some (some (.ref f))) (tI : PySem.W.typeIn K (.ref f) = some (.type "function")) (zs : mg "str" = none) : CalI P w K mg base 1 "TooMany" (κ 2) "most" okMany :=
  ⟨gC, OE, f, fd, _, fnI_ok (tt := ttMany) F sc_TooMany_init OE hno htt_many (fun cdv A outer s H E hr => pss_cons (ps_expr (pe_clinit (by rfl) gW rW vV (pa_cons (pe_var (by rfl) (Or.inl rfl)) (pa_cons (pe_op op_add_str pe_str (pe_callTy call_str_int (by rfl) zs (by decide +kernel) (pa_cons (pe_var (by rfl) (Or.inl rfl)) pa_nil))) pa_nil)))) (pss_one (ps_ost (pe_var (by rfl) (Or.inl rfl)) (pe_var (by rfl) (Or.inl rfl))))), iC, tI, F.binds (ps := ["self", "most"]) fun _ _ _ _ _ _ us hl => match us, hl with | [_, _], _ => rfl⟩
abbrev s_parts_of : Stmt := topS 11
abbrev N_parts_of : List Str := ["form"]
theorem sc_parts_of : FnScope N_parts_of ["form"] (defScope s_parts_of) := ⟨rfl, rfl, rfl, by decide +kernel, rfl, by decide +kernel, by decide +kernel⟩
set_option maxHeartbeats 4000000 in
theorem fn_parts_of (KW : κ.w = w) {f : Addr} {fd : FuncData} (F : Fun K "parts_of" "parts_of" s_parts_of f fd) (Z : Zs K mg) (E : Es K mg κ) : FnOk P w K mg base CX0 1 f fd ["form"] (spF0 K κ 1 f_parts_of) :=
  fn_ok (κ := κ) F sc_parts_of fun cdv A outer s H Ex hr => ls_cons (ls_if (lt_w (lw_or (lt_cmp (op_eqD hr.units) L_eq (le_ix (ix_any (hu65 hr)) (L_get KW) (le_var 0) (le_int) (fun _ _ => rfl)) (le_str)) (lw_or1 (lt_cmp (op_eqD hr.units) L_eq (le_ix (ix_any (hu65 hr)) (L_get KW) (le_var 0) (le_int) (fun _ _ => rfl)) (le_str))))) (ls_one (ls_ret (le_ix (ix_any (hu65 hr)) (L_get KW) (le_var 0) (le_int) (fun _ _ => rfl)))) (ls_nil))
    (ls_cons (ls_if (lt_cmp (op_eqD hr.units) L_eq (le_ix (ix_any (hu65 hr)) (L_get KW) (le_var 0) (le_int) (fun _ _ => rfl)) (le_str)) (ls_one (ls_ret (le_tup (la_cons (le_ix (ix_any (hu65 hr)) (L_get KW) (le_var 0) (le_int) (fun _ _ => rfl)) (la_nil))))) (ls_nil))
    (ls_one (ls_ret (le_tup (la_nil)))))
theorem ok_parts_of (KW : κ.w = w) {f : Addr} {fd : FuncData} (F : Fun K "parts_of" "parts_of" s_parts_of f fd) (G : mg "parts_of" = some (.ref f)) (Z : Zs K mg) (E : Es K mg κ) : Cal P w K mg base κ 1 "parts_of" 1 f_parts_of := ⟨f, fd, _, fn_parts_of KW F Z E, G, F.kp, F.binds (ps := ["form"]) fun _ _ _ _ _ _ us hl => match us, hl with | [_], _ => rfl⟩
abbrev s_pieces_opened : Stmt := topS 14
abbrev N_pieces_opened : List Str := ["form", "part", "some", "low", "high", "more", "rest"]
theorem sc_pieces_opened : FnScope N_pieces_opened ["form"] (defScope s_pieces_opened) := ⟨rfl, rfl, rfl, by decide +kernel, rfl, by decide +kernel, by decide +kernel⟩
set_option maxHeartbeats 4000000 in
theorem fn_pieces_opened (KW : κ.w = w) {f : Addr} {fd : FuncData} (F : Fun K "pieces_opened" "pieces_opened" s_pieces_opened f fd) (G : mg "pieces_opened" = some (.ref f)) (Z : Zs K mg) (E : Es K mg κ) (C_parts_of : Cal P w K mg base κ 1 "parts_of" 1 f_parts_of) : ∀ n : Nat, FnOk P w K mg base CX0 (1 + n) f fd ["form"] (spF0 K κ 1 (f_pieces_opened n))
  | 0 => fn_bad
  | n + 1 => by
    have C_pieces_opened : Cal P w K mg base κ (1 + n) "pieces_opened" 1 (f_pieces_opened n) := ⟨f, fd, _, fn_pieces_opened KW F G Z E C_parts_of n, G, F.kp, F.binds (ps := ["form"]) fun _ _ _ _ _ _ us hl => match us, hl with | [_], _ => rfl⟩
    exact fn_ok (κ := κ) F sc_pieces_opened fun cdv A outer s H Ex hr => ls_cons (ls_setLc 2 rfl sc_pieces_opened.nd (li_any (le_calC C_parts_of (hr.mono (Nat.le_trans (by decide) (Nat.le_add_right _ _))) (by rfl) (la_cons (le_var 0) (la_nil)))) (blkOk_by (own := [("part", 1)]) (N := N_pieces_opened) (sc := defScope s_pieces_opened) (by decide +kernel)) rfl (by decide) (fun _ _ _ _ _ => lg_name 1 sc_pieces_opened.nd) (fun _ _ _ _ _ => lts_nil) (fun _ _ _ _ _ => le_calC C_pieces_opened hr (by rfl) (la_cons (le_var 1) (la_nil))))
        (ls_cons (ls_if (lt_w (lw_or (lt_cmp (op_neD hr.units) L_ne (le_ix (ix_any (hu65 hr)) (L_get KW) (le_var 0) (le_int) (fun _ _ => rfl)) (le_str)) (lw_or1 (lt_cmp (or_in (hu65 hr)) (L_in KW) (le_tup (la_cons (le_ix (ix_any (hu65 hr)) (L_get KW) (le_var 0) (le_int) (fun _ _ => rfl)) (la_cons (le_ix (ix_any (hu65 hr)) (L_get KW) (le_var 0) (le_int) (fun _ _ => rfl)) (la_nil)))) (le_gc (by rfl) Z.v_PLAIN))))) (ls_one (ls_ret (le_op or_add L_add (le_int) (le_callB (cr_sum rfl) L_sum (by rfl) Z.z_sum (by decide +kernel) (la_cons (le_var 2) (la_nil)))))) (ls_nil))
        (ls_cons (ls_set 1 sc_pieces_opened.nd (le_ix (ix_any (hu65 hr)) (L_get KW) (le_var 2) (le_int) (fun _ _ => rfl)))
        (ls_cons (ls_par 3 4 rfl sc_pieces_opened.nd (le_ix (ix_any (hu65 hr)) (L_get KW) (le_var 0) (le_int) (fun _ _ => rfl)) (le_ix (ix_any (hu65 hr)) (L_get KW) (le_var 0) (le_int) (fun _ _ => rfl)))
        (ls_cons (ls_if (lt_cmp or_is L_is (le_var 4) (le_non)) (ls_one (ls_ret (le_op or_add L_add (le_int) (le_op or_mul L_mul (le_var 3) (le_var 1))))) (ls_nil))
        (ls_cons (ls_set 5 sc_pieces_opened.nd (le_op op_sub L_sub (le_var 4) (le_var 3)))
        (ls_cons (ls_set 6 sc_pieces_opened.nd (le_if (lt_cmp (op_eqD hr.units) L_eq (le_var 5) (le_int)) (le_int) (le_op op_sub L_sub (le_op or_mul L_mul (le_var 5) (le_op or_add L_add (le_var 1) (le_int))) (le_int))))
        (ls_one (ls_ret (le_op or_add L_add (le_op or_add L_add (le_op or_mul L_mul (le_var 3) (le_var 1)) (le_var 6)) (le_callTy call_int1 L_int (by rfl) Z.z_int (by decide +kernel) (la_cons (le_cmp op_gt L_gt (le_op or_add L_add (le_var 3) (le_callTy call_int1 L_int (by rfl) Z.z_int (by decide +kernel) (la_cons (le_cmp op_gt L_gt (le_var 5) (le_int)) (la_nil)))) (le_int)) (la_nil))))))))))))
theorem ok_pieces_opened (KW : κ.w = w) {f : Addr} {fd : FuncData} (F : Fun K "pieces_opened" "pieces_opened" s_pieces_opened f fd) (G : mg "pieces_opened" = some (.ref f)) (Z : Zs K mg) (E : Es K mg κ) (C_parts_of : Cal P w K mg base κ 1 "parts_of" 1 f_parts_of) (n : Nat) : Cal P w K mg base κ (1 + n) "pieces_opened" 1 (f_pieces_opened n) := ⟨f, fd, _, fn_pieces_opened KW F G Z E C_parts_of n, G, F.kp, F.binds (ps := ["form"]) fun _ _ _ _ _ _ us hl => match us, hl with | [_], _ => rfl⟩
abbrev s_put_in_a_row : Stmt := topS 15
abbrev N_put_in_a_row : List Str := ["forms"]
theorem sc_put_in_a_row : FnScope N_put_in_a_row ["forms"] (defScope s_put_in_a_row) := ⟨rfl, rfl, rfl, by decide +kernel, rfl, by decide +kernel, by decide +kernel⟩
set_option maxHeartbeats 4000000 in
theorem fn_put_in_a_row (KW : κ.w = w) {f : Addr} {fd : FuncData} (F : Fun K "put_in_a_row" "put_in_a_row" s_put_in_a_row f fd) (Z : Zs K mg) (E : Es K mg κ) : FnOk P w K mg base CX0 1 f fd ["forms"] (spF0 K κ 1 f_put_in_a_row) :=
  fn_ok (κ := κ) F sc_put_in_a_row fun cdv A outer s H Ex hr => ls_one (ls_ret (le_if (lt_cmp (op_eqD hr.units) L_eq (le_callB cr_len (L_len KW) (by rfl) Z.z_len (by decide +kernel) (la_cons (le_var 0) (la_nil))) (le_int)) (le_ix (ix_any (hu65 hr)) (L_get KW) (le_var 0) (le_int) (fun _ _ => rfl)) (le_tup (la_cons (le_str) (la_cons (le_callTy call_tupleD L_tuple (by rfl) Z.z_tuple (by decide +kernel) (la_cons (le_var 0) (la_nil))) (la_nil))))))
theorem ok_put_in_a_row (KW : κ.w = w) {f : Addr} {fd : FuncData} (F : Fun K "put_in_a_row" "put_in_a_row" s_put_in_a_row f fd) (G : mg "put_in_a_row" = some (.ref f)) (Z : Zs K mg) (E : Es K mg κ) : Cal P w K mg base κ 1 "put_in_a_row" 1 f_put_in_a_row := ⟨f, fd, _, fn_put_in_a_row KW F Z E, G, F.kp, F.binds (ps := ["forms"]) fun _ _ _ _ _ _ us hl => match us, hl with | [_], _ => rfl⟩
abbrev s_laid_out : Stmt := topS 16
abbrev N_laid_out : List Str := ["part", "low", "high", "rest", "turn"]
theorem sc_laid_out : FnScope N_laid_out ["part", "low", "high"] (defScope s_laid_out) := ⟨rfl, rfl, rfl, by decide +kernel, rfl, by decide +kernel, by decide +kernel⟩
set_option maxHeartbeats 4000000 in
theorem fn_laid_out (KW : κ.w = w) {f : Addr} {fd : FuncData} (F : Fun K "laid_out" "laid_out" s_laid_out f fd) (Z : Zs K mg) (E : Es K mg κ) (C_put_in_a_row : Cal P w K mg base κ 1 "put_in_a_row" 1 f_put_in_a_row) : FnOk P w K mg base CX0 2 f fd ["part", "low", "high"] (spF0 K κ 3 f_laid_out) :=
  fn_ok (κ := κ) F sc_laid_out fun cdv A outer s H Ex hr => ls_cons (ls_if (lt_cmp (or_in (hu65 hr)) (L_in KW) (le_tup (la_cons (le_var 1) (la_cons (le_var 2) (la_nil)))) (le_gc (by rfl) Z.v_PLAIN)) (ls_one (ls_ret (le_tup (la_cons (le_str) (la_cons (le_var 0) (la_cons (le_var 1) (la_cons (le_var 2) (la_nil)))))))) (ls_nil))
    (ls_cons (ls_if (lt_cmp or_is L_is (le_var 2) (le_non)) (ls_one (ls_ret (le_calC C_put_in_a_row (hr.mono (by decide)) (by rfl) (la_cons (le_op or_add L_add (le_op or_mul L_mul (le_lst (la_cons (le_var 0) (la_nil))) (le_op op_sub L_sub (le_var 1) (le_int))) (le_lst (la_cons (le_tup (la_cons (le_str) (la_cons (le_var 0) (la_cons (le_int) (la_cons (le_non) (la_nil)))))) (la_nil)))) (la_nil))))) (ls_nil))
    (ls_cons (ls_set 3 sc_laid_out.nd (le_lst (la_nil)))
    (ls_cons (ls_for PassesOwn.never rfl (li_rng1 (by rfl) Z.z_range (le_op op_sub L_sub (le_var 2) (le_var 1))) (lg_name 4 sc_laid_out.nd) (ls_one (ls_set 3 sc_laid_out.nd (le_lst (la_cons (le_tup (la_cons (le_str) (la_cons (le_calC C_put_in_a_row (hr.mono (by decide)) (by rfl) (la_cons (le_op or_add L_add (le_lst (la_cons (le_var 0) (la_nil))) (le_var 3)) (la_nil))) (la_cons (le_int) (la_cons (le_int) (la_nil)))))) (la_nil))))))
    (ls_one (ls_ret (le_calC C_put_in_a_row (hr.mono (by decide)) (by rfl) (la_cons (le_op or_add L_add (le_op or_mul L_mul (le_lst (la_cons (le_var 0) (la_nil))) (le_var 1)) (le_var 3)) (la_nil))))))))
theorem ok_laid_out (KW : κ.w = w) {f : Addr} {fd : FuncData} (F : Fun K "laid_out" "laid_out" s_laid_out f fd) (G : mg "laid_out" = some (.ref f)) (Z : Zs K mg) (E : Es K mg κ) (C_put_in_a_row : Cal P w K mg base κ 1 "put_in_a_row" 1 f_put_in_a_row) : Cal P w K mg base κ 2 "laid_out" 3 f_laid_out := ⟨f, fd, _, fn_laid_out KW F Z E C_put_in_a_row, G, F.kp, F.binds (ps := ["part", "low", "high"]) fun _ _ _ _ _ _ us hl => match us, hl with | [_, _, _], _ => rfl⟩
abbrev s_opened_inside : Stmt := topS 17
abbrev N_opened_inside : List Str := ["form", "part"]
theorem sc_opened_inside : FnScope N_opened_inside ["form"] (defScope s_opened_inside) := ⟨rfl, rfl, rfl, by decide +kernel, rfl, by decide +kernel, by decide +kernel⟩
set_option maxHeartbeats 4000000 in
theorem fn_opened_inside (KW : κ.w = w) {f : Addr} {fd : FuncData} (F : Fun K "opened_inside" "opened_inside" s_opened_inside f fd) (G : mg "opened_inside" = some (.ref f)) (Z : Zs K mg) (E : Es K mg κ) (C_laid_out : Cal P w K mg base κ 2 "laid_out" 3 f_laid_out) : ∀ n : Nat, FnOk P w K mg base CX0 (2 + n) f fd ["form"] (spF0 K κ 1 (f_opened_inside n))
  | 0 => fn_bad
  | n + 1 => by
    have C_opened_inside : Cal P w K mg base κ (2 + n) "opened_inside" 1 (f_opened_inside n) := ⟨f, fd, _, fn_opened_inside KW F G Z E C_laid_out n, G, F.kp, F.binds (ps := ["form"]) fun _ _ _ _ _ _ us hl => match us, hl with | [_], _ => rfl⟩
    exact fn_ok (κ := κ) F sc_opened_inside fun cdv A outer s H Ex hr => ls_cons (ls_if (lt_cmp (op_eqD hr.units) L_eq (le_ix (ix_any (hu65 hr)) (L_get KW) (le_var 0) (le_int) (fun _ _ => rfl)) (le_str)) (ls_one (ls_ret (le_var 0))) (ls_nil))
        (ls_cons (ls_if (lt_cmp (op_eqD hr.units) L_eq (le_ix (ix_any (hu65 hr)) (L_get KW) (le_var 0) (le_int) (fun _ _ => rfl)) (le_str)) (ls_one (ls_ret (le_calC C_laid_out (hr.mono (Nat.le_trans (by decide) (Nat.le_add_right _ _))) (by rfl) (la_cons (le_calC C_opened_inside hr (by rfl) (la_cons (le_ix (ix_any (hu65 hr)) (L_get KW) (le_var 0) (le_int) (fun _ _ => rfl)) (la_nil))) (la_cons (le_ix (ix_any (hu65 hr)) (L_get KW) (le_var 0) (le_int) (fun _ _ => rfl)) (la_cons (le_ix (ix_any (hu65 hr)) (L_get KW) (le_var 0) (le_int) (fun _ _ => rfl)) (la_nil))))))) (ls_nil))
        (ls_one (ls_ret (le_tup (la_cons (le_ix (ix_any (hu65 hr)) (L_get KW) (le_var 0) (le_int) (fun _ _ => rfl)) (la_cons (le_callTy call_tupleD L_tuple (by rfl) Z.z_tuple (by decide +kernel) (la_cons (le_lc rfl sc_opened_inside.nd (li_any (le_ix (ix_any (hu65 hr)) (L_get KW) (le_var 0) (le_int) (fun _ _ => rfl))) (blkOk_by (own := [("part", 1)]) (N := N_opened_inside) (sc := defScope s_opened_inside) (by decide +kernel)) rfl (by decide) (fun _ _ _ _ _ => lg_name 1 sc_opened_inside.nd) (fun _ _ _ _ _ => lts_nil) (fun _ _ _ _ _ => le_calC C_opened_inside hr (by rfl) (la_cons (le_var 1) (la_nil)))) (la_nil))) (la_nil)))))))
theorem ok_opened_inside (KW : κ.w = w) {f : Addr} {fd : FuncData} (F : Fun K "opened_inside" "opened_inside" s_opened_inside f fd) (G : mg "opened_inside" = some (.ref f)) (Z : Zs K mg) (E : Es K mg κ) (C_laid_out : Cal P w K mg base κ 2 "laid_out" 3 f_laid_out) (n : Nat) : Cal P w K mg base κ (2 + n) "opened_inside" 1 (f_opened_inside n) := ⟨f, fd, _, fn_opened_inside KW F G Z E C_laid_out n, G, F.kp, F.binds (ps := ["form"]) fun _ _ _ _ _ _ us hl => match us, hl with | [_], _ => rfl⟩
abbrev s_opened : Stmt := topS 18
abbrev N_opened : List Str := ["form"]
theorem sc_opened : FnScope N_opened ["form"] (defScope s_opened) := ⟨rfl, rfl, rfl, by decide +kernel, rfl, by decide +kernel, by decide +kernel⟩
set_option maxHeartbeats 4000000 in
theorem fn_opened (KW : κ.w = w) {f : Addr} {fd : FuncData} (F : Fun K "opened" "opened" s_opened f fd) (Z : Zs K mg) (E : Es K mg κ) (C_pieces_opened : Cal P w K mg base κ 13 "pieces_opened" 1 (f_pieces_opened 12)) (C_opened_inside : Cal P w K mg base κ 14 "opened_inside" 1 (f_opened_inside 12)) (CI_TooMany : CalI P w K mg base 1 "TooMany" (κ 2) "most" okMany) : FnOk P w K mg base (L2.CX P w) 15 f fd ["form"] (spF K κ 1 f_opened) :=
  fnX_ok (κ := κ) F sc_opened fun cdv A outer s H Ex hr tk => ls_cons (ls_if (lt_cmp op_gt L_gt (le_calC C_pieces_opened (hr.mono (by decide)) (by rfl) (la_cons (le_var 0) (la_nil))) (le_gv (by rfl) Z.v_MOST_PIECES (fun _ _ => by simp only [VR]))) (ls_one (ls_raiseI rfl tk CI_TooMany (hr.mono (by decide)) (by rfl) ok_many (le_gv (by rfl) Z.v_MOST_PIECES (fun _ _ => by simp only [VR])))) (ls_nil))
    (ls_one (ls_ret (le_calC C_opened_inside (hr.mono (by decide)) (by rfl) (la_cons (le_var 0) (la_nil)))))
theorem ok_opened (KW : κ.w = w) {f : Addr} {fd : FuncData} (F : Fun K "opened" "opened" s_opened f fd) (G : mg "opened" = some (.ref f)) (Z : Zs K mg) (E : Es K mg κ) (C_pieces_opened : Cal P w K mg base κ 13 "pieces_opened" 1 (f_pieces_opened 12)) (C_opened_inside : Cal P w K mg base κ 14 "opened_inside" 1 (f_opened_inside 12)) (CI_TooMany : CalI P w K mg base 1 "TooMany" (κ 2) "most" okMany) : CalX P w K mg base κ 15 "opened" 1 f_opened := ⟨f, fd, _, fn_opened KW F Z E C_pieces_opened C_opened_inside CI_TooMany, G, F.kp, F.binds (ps := ["form"]) fun _ _ _ _ _ _ us hl => match us, hl with | [_], _ => rfl⟩
abbrev s_law_e_pen : Stmt := topS 20
abbrev N_law_e_pen : List Str := ["script"]
theorem sc_law_e_pen : FnScope N_law_e_pen ["script"] (defScope s_law_e_pen) := ⟨rfl, rfl, rfl, by decide +kernel, rfl, by decide +kernel, by decide +kernel⟩
set_option maxHeartbeats 4000000 in
theorem fn_law_e_pen (KW : κ.w = w) {f : Addr} {fd : FuncData} (F : Fun K "_law_e_pen" "_law_e_pen" s_law_e_pen f fd) (Z : Zs K mg) (E : Es K mg κ) : FnOk P w K mg base CX0 1 f fd ["script"] (spF0 K κ 1 f_law_e_pen) :=
  fn_ok (κ := κ) F sc_law_e_pen fun cdv A outer s H Ex hr => ls_one (ls_ret (le_lst (la_cons (le_callTy call_list_of L_list (by rfl) Z.z_list (by decide +kernel) (la_cons (le_slice (le_var 0) (lo_none) (lo_some (le_int))) (la_nil))) (la_cons (le_int) (la_cons (le_int) (la_nil))))))
theorem ok_law_e_pen (KW : κ.w = w) {f : Addr} {fd : FuncData} (F : Fun K "_law_e_pen" "_law_e_pen" s_law_e_pen f fd) (G : mg "_law_e_pen" = some (.ref f)) (Z : Zs K mg) (E : Es K mg κ) : Cal P w K mg base κ 1 "_law_e_pen" 1 f_law_e_pen := ⟨f, fd, _, fn_law_e_pen KW F Z E, G, F.kp, F.binds (ps := ["script"]) fun _ _ _ _ _ _ us hl => match us, hl with | [_], _ => rfl⟩
abbrev s_law_e_take : Stmt := topS 21
abbrev N_law_e_take : List Str := ["pen", "many", "at", "cell", "mixed", "found"]
theorem sc_law_e_take : FnScope N_law_e_take ["pen", "many"] (defScope s_law_e_take) := ⟨rfl, rfl, rfl, by decide +kernel, rfl, by decide +kernel, by decide +kernel⟩
set_option maxHeartbeats 4000000 in
theorem fn_law_e_take (KW : κ.w = w) {f : Addr} {fd : FuncData} (F : Fun K "_law_e_take" "_law_e_take" s_law_e_take f fd) (Z : Zs K mg) (E : Es K mg κ) : FnOk P w K mg base CX0 1 f fd ["pen", "many"] (spF0 K κ 2 f_law_e_take) :=
  fn_ok (κ := κ) F sc_law_e_take fun cdv A outer s H Ex hr => ls_cons (ls_if (lt_cmp op_lt L_lt (le_ix (ix_any (hu65 hr)) (L_get KW) (le_var 0) (le_int) (fun _ _ => rfl)) (le_var 1)) (ls_cons (ls_set 2 sc_law_e_take.nd (le_ix (ix_any (hu65 hr)) (L_get KW) (le_var 0) (le_int) (fun _ _ => rfl)))
    (ls_cons (ls_set 3 sc_law_e_take.nd (le_int))
    (ls_cons (ls_if (lt_cmp op_lt L_lt (le_var 2) (le_callB cr_len (L_len KW) (by rfl) Z.z_len (by decide +kernel) (la_cons (le_ix (ix_any (hu65 hr)) (L_get KW) (le_var 0) (le_int) (fun _ _ => rfl)) (la_nil)))) (ls_one (ls_set 3 sc_law_e_take.nd (le_ix (ix_any (hu65 hr)) (L_get KW) (le_ix (ix_any (hu65 hr)) (L_get KW) (le_var 0) (le_int) (fun _ _ => rfl)) (le_var 2) (fun _ _ => rfl)))) (ls_one (ls_if (lt_cmp op_gt L_gt (le_callB cr_len (L_len KW) (by rfl) Z.z_len (by decide +kernel) (la_cons (le_ix (ix_any (hu65 hr)) (L_get KW) (le_var 0) (le_int) (fun _ _ => rfl)) (la_nil))) (le_int)) (ls_one (ls_set 3 sc_law_e_take.nd (le_op op_mod L_mod (le_ix (ix_any (hu65 hr)) (L_get KW) (le_ix (ix_any (hu65 hr)) (L_get KW) (le_var 0) (le_int) (fun _ _ => rfl)) (le_op op_mod L_mod (le_op or_mul L_mul (le_var 2) (le_int)) (le_callB cr_len (L_len KW) (by rfl) Z.z_len (by decide +kernel) (la_cons (le_ix (ix_any (hu65 hr)) (L_get KW) (le_var 0) (le_int) (fun _ _ => rfl)) (la_nil)))) (fun _ _ => rfl)) (le_int)))) (ls_nil))))
    (ls_cons (ls_put (set_any (hu65 hr)) (L_put KW) (le_op or_add L_add (le_var 2) (le_int)) (le_var 0) (le_int))
    (ls_cons (ls_put (set_any (hu65 hr)) (L_put KW) (le_var 3) (le_var 0) (le_int))
    (ls_one (ls_if (lt_cmp op_lt L_lt (le_var 3) (le_op op_pow L_pow (le_int) (le_int))) (ls_cons (ls_set 4 sc_law_e_take.nd (le_op op_mod L_mod (le_op or_add L_add (le_op or_add L_add (le_op or_mul L_mul (le_op op_mod L_mod (le_var 3) (le_int)) (le_int)) (le_op or_mul L_mul (le_var 2) (le_int))) (le_int)) (le_int)))
    (ls_cons (ls_set 4 sc_law_e_take.nd (le_op op_mod L_mod (le_op or_add L_add (le_op or_add L_add (le_op or_mul L_mul (le_var 4) (le_var 4)) (le_op or_mul L_mul (le_var 2) (le_int))) (le_int)) (le_int)))
    (ls_one (ls_put (set_any (hu65 hr)) (L_put KW) (le_op or_add L_add (le_op or_mul L_mul (le_var 4) (le_int)) (le_op op_mod L_mod (le_op or_add L_add (le_op or_mul L_mul (le_var 4) (le_var 4)) (le_op or_mul L_mul (le_int) (le_var 2))) (le_int))) (le_var 0) (le_int))))) (ls_nil)))))))) (ls_nil))
    (ls_cons (ls_set 5 sc_law_e_take.nd (le_op op_mod L_mod (le_ix (ix_any (hu65 hr)) (L_get KW) (le_var 0) (le_int) (fun _ _ => rfl)) (le_var 1)))
    (ls_cons (ls_put (set_any (hu65 hr)) (L_put KW) (le_op op_fdivW L_fdiv (le_ix (ix_any (hu65 hr)) (L_get KW) (le_var 0) (le_int) (fun _ _ => rfl)) (le_var 1)) (le_var 0) (le_int))
    (ls_one (ls_ret (le_var 5)))))
theorem ok_law_e_take (KW : κ.w = w) {f : Addr} {fd : FuncData} (F : Fun K "_law_e_take" "_law_e_take" s_law_e_take f fd) (G : mg "_law_e_take" = some (.ref f)) (Z : Zs K mg) (E : Es K mg κ) : Cal P w K mg base κ 1 "_law_e_take" 2 f_law_e_take := ⟨f, fd, _, fn_law_e_take KW F Z E, G, F.kp, F.binds (ps := ["pen", "many"]) fun _ _ _ _ _ _ us hl => match us, hl with | [_, _], _ => rfl⟩
abbrev s_law_e_signs : Stmt := topS 22
abbrev N_law_e_signs : List Str := ["pen", "way", "letters", "found", "k", "word", "j"]
theorem sc_law_e_signs : FnScope N_law_e_signs ["pen"] (defScope s_law_e_signs) := ⟨rfl, rfl, rfl, by decide +kernel, rfl, by decide +kernel, by decide +kernel⟩
set_option maxHeartbeats 4000000 in
theorem fn_law_e_signs (KW : κ.w = w) {f : Addr} {fd : FuncData} (F : Fun K "_law_e_signs" "_law_e_signs" s_law_e_signs f fd) (Z : Zs K mg) (E : Es K mg κ) (C_law_e_take : Cal P w K mg base κ 1 "_law_e_take" 2 f_law_e_take) : FnOk P w K mg base CX0 2 f fd ["pen"] (spF0 K κ 1 f_law_e_signs) :=
  fn_ok (κ := κ) F sc_law_e_signs fun cdv A outer s H Ex hr => ls_cons (ls_set 1 sc_law_e_signs.nd (le_calC C_law_e_take (hr.mono (by decide)) (by rfl) (la_cons (le_var 0) (la_cons (le_int) (la_nil)))))
    (ls_cons (ls_if (lt_cmp op_lt L_lt (le_var 1) (le_int)) (ls_one (ls_ret (le_ix (ix_any (hu65 hr)) (L_get KW) (le_lst (la_cons (le_lst (la_cons (le_str) (la_cons (le_str) (la_nil)))) (la_cons (le_lst (la_cons (le_str) (la_cons (le_str) (la_cons (le_str) (la_nil))))) (la_cons (le_lst (la_cons (le_str) (la_cons (le_str) (la_cons (le_str) (la_nil))))) (la_cons (le_lst (la_cons (le_str) (la_cons (le_str) (la_cons (le_str) (la_nil))))) (la_nil)))))) (le_var 1) (fun _ _ => rfl)))) (ls_nil))
    (ls_cons (ls_set 2 sc_law_e_signs.nd (le_str))
    (ls_cons (ls_set 3 sc_law_e_signs.nd (le_dict0))
    (ls_cons (ls_for PassesOwn.never rfl (li_rng1 (by rfl) Z.z_range (le_op or_add L_add (le_int) (le_op op_mod L_mod (le_var 1) (le_int)))) (lg_name 4 sc_law_e_signs.nd) (ls_cons (ls_setLc 5 rfl sc_law_e_signs.nd (li_rng1 (by rfl) Z.z_range (le_op or_add L_add (le_int) (le_calC C_law_e_take (hr.mono (by decide)) (by rfl) (la_cons (le_var 0) (la_cons (le_int) (la_nil)))))) (blkOk_by (own := [("j", 6)]) (N := N_law_e_signs) (sc := defScope s_law_e_signs) (by decide +kernel)) rfl (by decide) (fun _ _ _ _ _ => lg_name 6 sc_law_e_signs.nd) (fun _ _ _ _ _ => lts_nil) (fun _ _ _ _ _ => le_ix (ix_any (hu65 hr)) (L_get KW) (le_var 2) (le_calC C_law_e_take (hr.mono (by decide)) (by rfl) (la_cons (le_var 0) (la_cons (le_int) (la_nil)))) (fun _ _ => rfl)))
    (ls_one (ls_put (set_any (hu65 hr)) (L_put KW) (le_bl) (le_var 3) (le_meth PySem.F.plainAttrs_str PySem.F.slot_str_join PySem.F.type_str_join mt_join L_join (le_str) (la_cons (le_var 5) (la_nil)))))))
    (ls_one (ls_ret (le_callB (cr_sortedA rfl) L_sorted (by rfl) Z.z_sorted (by decide +kernel) (la_cons (le_var 3) (la_nil)))))))))
theorem ok_law_e_signs (KW : κ.w = w) {f : Addr} {fd : FuncData} (F : Fun K "_law_e_signs" "_law_e_signs" s_law_e_signs f fd) (G : mg "_law_e_signs" = some (.ref f)) (Z : Zs K mg) (E : Es K mg κ) (C_law_e_take : Cal P w K mg base κ 1 "_law_e_take" 2 f_law_e_take) : Cal P w K mg base κ 2 "_law_e_signs" 1 f_law_e_signs := ⟨f, fd, _, fn_law_e_signs KW F Z E C_law_e_take, G, F.kp, F.binds (ps := ["pen"]) fun _ _ _ _ _ _ us hl => match us, hl with | [_], _ => rfl⟩
abbrev s_law_e_form : Stmt := topS 23
abbrev N_law_e_form : List Str := ["pen", "signs", "deep", "around", "way", "inner", "bounds", "many", "k"]
theorem sc_law_e_form : FnScope N_law_e_form ["pen", "signs", "deep", "around"] (defScope s_law_e_form) := ⟨rfl, rfl, rfl, by decide +kernel, rfl, by decide +kernel, by decide +kernel⟩
set_option maxHeartbeats 4000000 in
theorem fn_law_e_form (KW : κ.w = w) {f : Addr} {fd : FuncData} (F : Fun K "_law_e_form" "_law_e_form" s_law_e_form f fd) (G : mg "_law_e_form" = some (.ref f)) (Z : Zs K mg) (E : Es K mg κ) (C_law_e_take : Cal P w K mg base κ 1 "_law_e_take" 2 f_law_e_take) : ∀ n : Nat, FnOk P w K mg base CX0 (1 + n) f fd ["pen", "signs", "deep", "around"] (spF0 K κ 4 (f_law_e_form n))
  | 0 => fn_bad
  | n + 1 => by
    have C_law_e_form : Cal P w K mg base κ (1 + n) "_law_e_form" 4 (f_law_e_form n) := ⟨f, fd, _, fn_law_e_form KW F G Z E C_law_e_take n, G, F.kp, F.binds (ps := ["pen", "signs", "deep", "around"]) fun _ _ _ _ _ _ us hl => match us, hl with | [_, _, _, _], _ => rfl⟩
    exact fn_ok (κ := κ) F sc_law_e_form fun cdv A outer s H Ex hr => ls_cons (ls_set 4 sc_law_e_form.nd (le_calC C_law_e_take (hr.mono (Nat.le_trans (by decide) (Nat.le_add_right _ _))) (by rfl) (la_cons (le_var 0) (la_cons (le_int) (la_nil)))))
        (ls_cons (ls_if (lt_w (lw_or (lt_cmp (op_eqD hr.units) L_eq (le_var 2) (le_int)) (lw_or1 (lt_cmp op_lt L_lt (le_var 4) (le_int))))) (ls_one (ls_ret (le_tup (la_cons (le_str) (la_cons (le_ix (ix_any (hu65 hr)) (L_get KW) (le_var 1) (le_calC C_law_e_take (hr.mono (Nat.le_trans (by decide) (Nat.le_add_right _ _))) (by rfl) (la_cons (le_var 0) (la_cons (le_callB cr_len (L_len KW) (by rfl) Z.z_len (by decide +kernel) (la_cons (le_var 1) (la_nil))) (la_nil)))) (fun _ _ => rfl)) (la_nil)))))) (ls_nil))
        (ls_cons (ls_if (lt_w (lw_and (lt_cmp op_lt L_lt (le_var 4) (le_int)) (lw_and1 (lt_cmp op_gt L_gt (le_var 3) (le_int))))) (ls_cons (ls_set 5 sc_law_e_form.nd (le_calC C_law_e_form hr (by rfl) (la_cons (le_var 0) (la_cons (le_var 1) (la_cons (le_op op_sub L_sub (le_var 2) (le_int)) (la_cons (le_op op_sub L_sub (le_var 3) (le_int)) (la_nil)))))))
        (ls_cons (ls_set 6 sc_law_e_form.nd (le_lst (la_cons (le_tup (la_cons (le_int) (la_cons (le_int) (la_nil)))) (la_cons (le_tup (la_cons (le_int) (la_cons (le_non) (la_nil)))) (la_cons (le_tup (la_cons (le_int) (la_cons (le_non) (la_nil)))) (la_cons (le_tup (la_cons (le_int) (la_cons (le_int) (la_nil)))) (la_cons (le_tup (la_cons (le_int) (la_cons (le_int) (la_nil)))) (la_cons (le_tup (la_cons (le_int) (la_cons (le_int) (la_nil)))) (la_cons (le_tup (la_cons (le_int) (la_cons (le_int) (la_nil)))) (la_cons (le_tup (la_cons (le_int) (la_cons (le_int) (la_nil)))) (la_cons (le_tup (la_cons (le_int) (la_cons (le_non) (la_nil)))) (la_cons (le_tup (la_cons (le_int) (la_cons (le_int) (la_nil)))) (la_cons (le_tup (la_cons (le_int) (la_cons (le_int) (la_nil)))) (la_nil))))))))))))))
        (ls_one (ls_ret (le_op or_add L_add (le_tup (la_cons (le_str) (la_cons (le_var 5) (la_nil)))) (le_ix (ix_any (hu65 hr)) (L_get KW) (le_var 6) (le_calC C_law_e_take (hr.mono (Nat.le_trans (by decide) (Nat.le_add_right _ _))) (by rfl) (la_cons (le_var 0) (la_cons (le_int) (la_nil)))) (fun _ _ => rfl))))))) (ls_nil))
        (ls_cons (ls_if (lt_cmp op_lt L_lt (le_var 4) (le_int)) (ls_cons (ls_set 7 sc_law_e_form.nd (le_calC C_law_e_take (hr.mono (Nat.le_trans (by decide) (Nat.le_add_right _ _))) (by rfl) (la_cons (le_var 0) (la_cons (le_int) (la_nil)))))
        (ls_one (ls_ret (le_tup (la_cons (le_str) (la_cons (le_callTy call_tupleD L_tuple (by rfl) Z.z_tuple (by decide +kernel) (la_cons (le_lc rfl sc_law_e_form.nd (li_rng1 (by rfl) Z.z_range (le_var 7)) (blkOk_by (own := [("k", 8)]) (N := N_law_e_form) (sc := defScope s_law_e_form) (by decide +kernel)) rfl (by decide) (fun _ _ _ _ _ => lg_name 8 sc_law_e_form.nd) (fun _ _ _ _ _ => lts_nil) (fun _ _ _ _ _ => le_calC C_law_e_form hr (by rfl) (la_cons (le_var 0) (la_cons (le_var 1) (la_cons (le_op op_sub L_sub (le_var 2) (le_int)) (la_cons (le_var 3) (la_nil))))))) (la_nil))) (la_nil))))))) (ls_nil))
        (ls_cons (ls_set 7 sc_law_e_form.nd (le_op or_add L_add (le_int) (le_calC C_law_e_take (hr.mono (Nat.le_trans (by decide) (Nat.le_add_right _ _))) (by rfl) (la_cons (le_var 0) (la_cons (le_int) (la_nil))))))
        (ls_one (ls_ret (le_tup (la_cons (le_str) (la_cons (le_callTy call_tupleD L_tuple (by rfl) Z.z_tuple (by decide +kernel) (la_cons (le_lc rfl sc_law_e_form.nd (li_rng1 (by rfl) Z.z_range (le_var 7)) (blkOk_by (own := [("k", 8)]) (N := N_law_e_form) (sc := defScope s_law_e_form) (by decide +kernel)) rfl (by decide) (fun _ _ _ _ _ => lg_name 8 sc_law_e_form.nd) (fun _ _ _ _ _ => lts_nil) (fun _ _ _ _ _ => le_calC C_law_e_form hr (by rfl) (la_cons (le_var 0) (la_cons (le_var 1) (la_cons (le_op op_sub L_sub (le_var 2) (le_int)) (la_cons (le_var 3) (la_nil))))))) (la_nil))) (la_nil))))))))))
theorem ok_law_e_form (KW : κ.w = w) {f : Addr} {fd : FuncData} (F : Fun K "_law_e_form" "_law_e_form" s_law_e_form f fd) (G : mg "_law_e_form" = some (.ref f)) (Z : Zs K mg) (E : Es K mg κ) (C_law_e_take : Cal P w K mg base κ 1 "_law_e_take" 2 f_law_e_take) (n : Nat) : Cal P w K mg base κ (1 + n) "_law_e_form" 4 (f_law_e_form n) := ⟨f, fd, _, fn_law_e_form KW F G Z E C_law_e_take n, G, F.kp, F.binds (ps := ["pen", "signs", "deep", "around"]) fun _ _ _ _ _ _ us hl => match us, hl with | [_, _, _, _], _ => rfl⟩
abbrev s_law_e_opened : Stmt := topS 28
abbrev N_law_e_opened : List Str := ["form", "inner", "low", "high", "some", "tail", "k", "one"]
theorem sc_law_e_opened : FnScope N_law_e_opened ["form"] (defScope s_law_e_opened) := ⟨rfl, rfl, rfl, by decide +kernel, rfl, by decide +kernel, by decide +kernel⟩
set_option maxHeartbeats 4000000 in
theorem fn_law_e_opened (KW : κ.w = w) {f : Addr} {fd : FuncData} (F : Fun K "_law_e_opened" "_law_e_opened" s_law_e_opened f fd) (G : mg "_law_e_opened" = some (.ref f)) (Z : Zs K mg) (E : Es K mg κ) : ∀ n : Nat, FnOk P w K mg base CX0 (0 + n) f fd ["form"] (spF0 K κ 1 (f_law_e_opened n))
  | 0 => fn_bad
  | n + 1 => by
    have C_law_e_opened : Cal P w K mg base κ (0 + n) "_law_e_opened" 1 (f_law_e_opened n) := ⟨f, fd, _, fn_law_e_opened KW F G Z E n, G, F.kp, F.binds (ps := ["form"]) fun _ _ _ _ _ _ us hl => match us, hl with | [_], _ => rfl⟩
    exact fn_ok (κ := κ) F sc_law_e_opened fun cdv A outer s H Ex hr => ls_cons (ls_if (lt_cmp (op_eqD hr.units) L_eq (le_ix (ix_any (hu65 hr)) (L_get KW) (le_var 0) (le_int) (fun _ _ => rfl)) (le_str)) (ls_one (ls_ret (le_var 0))) (ls_nil))
        (ls_cons (ls_if (lt_cmp (op_neD hr.units) L_ne (le_ix (ix_any (hu65 hr)) (L_get KW) (le_var 0) (le_int) (fun _ _ => rfl)) (le_str)) (ls_one (ls_ret (le_tup (la_cons (le_ix (ix_any (hu65 hr)) (L_get KW) (le_var 0) (le_int) (fun _ _ => rfl)) (la_cons (le_callTy call_tupleD L_tuple (by rfl) Z.z_tuple (by decide +kernel) (la_cons (le_lc rfl sc_law_e_opened.nd (li_any (le_ix (ix_any (hu65 hr)) (L_get KW) (le_var 0) (le_int) (fun _ _ => rfl))) (blkOk_by (own := [("one", 7)]) (N := N_law_e_opened) (sc := defScope s_law_e_opened) (by decide +kernel)) rfl (by decide) (fun _ _ _ _ _ => lg_name 7 sc_law_e_opened.nd) (fun _ _ _ _ _ => lts_nil) (fun _ _ _ _ _ => le_calC C_law_e_opened hr (by rfl) (la_cons (le_var 7) (la_nil)))) (la_nil))) (la_nil)))))) (ls_nil))
        (ls_cons (ls_set 1 sc_law_e_opened.nd (le_calC C_law_e_opened hr (by rfl) (la_cons (le_ix (ix_any (hu65 hr)) (L_get KW) (le_var 0) (le_int) (fun _ _ => rfl)) (la_nil))))
        (ls_cons (ls_asg (le_slice (le_var 0) (lo_some (le_int)) (lo_none)) (lg_tup rfl (lgs_cons (lg_name 2 sc_law_e_opened.nd) (lgs_cons (lg_name 3 sc_law_e_opened.nd) (lgs_nil)))))
        (ls_cons (ls_if (lt_cmp (or_in (hu65 hr)) (L_in KW) (le_tup (la_cons (le_var 2) (la_cons (le_var 3) (la_nil)))) (le_lst (la_cons (le_tup (la_cons (le_int) (la_cons (le_int) (la_nil)))) (la_cons (le_tup (la_cons (le_int) (la_cons (le_non) (la_nil)))) (la_cons (le_tup (la_cons (le_int) (la_cons (le_non) (la_nil)))) (la_nil)))))) (ls_one (ls_ret (le_tup (la_cons (le_str) (la_cons (le_var 1) (la_cons (le_var 2) (la_cons (le_var 3) (la_nil)))))))) (ls_nil))
        (ls_cons (ls_if (lt_cmp or_is L_is (le_var 3) (le_non)) (ls_one (ls_ret (le_tup (la_cons (le_str) (la_cons (le_op or_add L_add (le_op or_mul L_mul (le_tup (la_cons (le_var 1) (la_nil))) (le_op op_sub L_sub (le_var 2) (le_int))) (le_tup (la_cons (le_tup (la_cons (le_str) (la_cons (le_var 1) (la_cons (le_int) (la_cons (le_non) (la_nil)))))) (la_nil)))) (la_nil)))))) (ls_nil))
        (ls_cons (ls_set 4 sc_law_e_opened.nd (le_op or_mul L_mul (le_tup (la_cons (le_var 1) (la_nil))) (le_var 2)))
        (ls_cons (ls_if (lt_cmp op_gt L_gt (le_var 3) (le_var 2)) (ls_cons (ls_set 5 sc_law_e_opened.nd (le_tup (la_cons (le_str) (la_cons (le_var 1) (la_cons (le_int) (la_cons (le_int) (la_nil)))))))
        (ls_cons (ls_for PassesOwn.never rfl (li_rng1 (by rfl) Z.z_range (le_op op_sub L_sub (le_op op_sub L_sub (le_var 3) (le_var 2)) (le_int))) (lg_name 6 sc_law_e_opened.nd) (ls_one (ls_set 5 sc_law_e_opened.nd (le_tup (la_cons (le_str) (la_cons (le_tup (la_cons (le_str) (la_cons (le_tup (la_cons (le_var 1) (la_cons (le_var 5) (la_nil)))) (la_nil)))) (la_cons (le_int) (la_cons (le_int) (la_nil)))))))))
        (ls_one (ls_set 4 sc_law_e_opened.nd (le_op or_add L_add (le_var 4) (le_tup (la_cons (le_var 5) (la_nil)))))))) (ls_nil))
        (ls_one (ls_ret (le_if (lt_cmp (op_eqD hr.units) L_eq (le_callB cr_len (L_len KW) (by rfl) Z.z_len (by decide +kernel) (la_cons (le_var 4) (la_nil))) (le_int)) (le_ix (ix_any (hu65 hr)) (L_get KW) (le_var 4) (le_int) (fun _ _ => rfl)) (le_tup (la_cons (le_str) (la_cons (le_var 4) (la_nil))))))))))))))
theorem ok_law_e_opened (KW : κ.w = w) {f : Addr} {fd : FuncData} (F : Fun K "_law_e_opened" "_law_e_opened" s_law_e_opened f fd) (G : mg "_law_e_opened" = some (.ref f)) (Z : Zs K mg) (E : Es K mg κ) (n : Nat) : Cal P w K mg base κ (0 + n) "_law_e_opened" 1 (f_law_e_opened n) := ⟨f, fd, _, fn_law_e_opened KW F G Z E n, G, F.kp, F.binds (ps := ["form"]) fun _ _ _ _ _ _ us hl => match us, hl with | [_], _ => rfl⟩
abbrev s_law_e_size : Stmt := topS 29
abbrev N_law_e_size : List Str := ["form", "inner", "low", "high", "tail", "k", "one"]
theorem sc_law_e_size : FnScope N_law_e_size ["form"] (defScope s_law_e_size) := ⟨rfl, rfl, rfl, by decide +kernel, rfl, by decide +kernel, by decide +kernel⟩
set_option maxHeartbeats 4000000 in
theorem fn_law_e_size (KW : κ.w = w) {f : Addr} {fd : FuncData} (F : Fun K "_law_e_size" "_law_e_size" s_law_e_size f fd) (G : mg "_law_e_size" = some (.ref f)) (Z : Zs K mg) (E : Es K mg κ) : ∀ n : Nat, FnOk P w K mg base CX0 (0 + n) f fd ["form"] (spF0 K κ 1 (f_law_e_size n))
  | 0 => fn_bad
  | n + 1 => by
    have C_law_e_size : Cal P w K mg base κ (0 + n) "_law_e_size" 1 (f_law_e_size n) := ⟨f, fd, _, fn_law_e_size KW F G Z E n, G, F.kp, F.binds (ps := ["form"]) fun _ _ _ _ _ _ us hl => match us, hl with | [_], _ => rfl⟩
    exact fn_ok (κ := κ) F sc_law_e_size fun cdv A outer s H Ex hr => ls_cons (ls_if (lt_cmp (op_eqD hr.units) L_eq (le_ix (ix_any (hu65 hr)) (L_get KW) (le_var 0) (le_int) (fun _ _ => rfl)) (le_str)) (ls_one (ls_ret (le_int))) (ls_nil))
        (ls_cons (ls_if (lt_cmp (op_neD hr.units) L_ne (le_ix (ix_any (hu65 hr)) (L_get KW) (le_var 0) (le_int) (fun _ _ => rfl)) (le_str)) (ls_one (ls_ret (le_op or_add L_add (le_int) (le_callB (cr_sum rfl) L_sum (by rfl) Z.z_sum (by decide +kernel) (la_cons (le_lc rfl sc_law_e_size.nd (li_any (le_ix (ix_any (hu65 hr)) (L_get KW) (le_var 0) (le_int) (fun _ _ => rfl))) (blkOk_by (own := [("one", 6)]) (N := N_law_e_size) (sc := defScope s_law_e_size) (by decide +kernel)) rfl (by decide) (fun _ _ _ _ _ => lg_name 6 sc_law_e_size.nd) (fun _ _ _ _ _ => lts_nil) (fun _ _ _ _ _ => le_calC C_law_e_size hr (by rfl) (la_cons (le_var 6) (la_nil)))) (la_nil)))))) (ls_nil))
        (ls_cons (ls_set 1 sc_law_e_size.nd (le_calC C_law_e_size hr (by rfl) (la_cons (le_ix (ix_any (hu65 hr)) (L_get KW) (le_var 0) (le_int) (fun _ _ => rfl)) (la_nil))))
        (ls_cons (ls_asg (le_slice (le_var 0) (lo_some (le_int)) (lo_none)) (lg_tup rfl (lgs_cons (lg_name 2 sc_law_e_size.nd) (lgs_cons (lg_name 3 sc_law_e_size.nd) (lgs_nil)))))
        (ls_cons (ls_if (lt_cmp (or_in (hu65 hr)) (L_in KW) (le_tup (la_cons (le_var 2) (la_cons (le_var 3) (la_nil)))) (le_lst (la_cons (le_tup (la_cons (le_int) (la_cons (le_int) (la_nil)))) (la_cons (le_tup (la_cons (le_int) (la_cons (le_non) (la_nil)))) (la_cons (le_tup (la_cons (le_int) (la_cons (le_non) (la_nil)))) (la_nil)))))) (ls_one (ls_ret (le_op or_add L_add (le_int) (le_var 1)))) (ls_nil))
        (ls_cons (ls_if (lt_cmp or_is L_is (le_var 3) (le_non)) (ls_one (ls_ret (le_op or_add L_add (le_op or_add L_add (le_op or_add L_add (le_int) (le_op or_mul L_mul (le_op op_sub L_sub (le_var 2) (le_int)) (le_var 1))) (le_int)) (le_var 1)))) (ls_nil))
        (ls_cons (ls_set 4 sc_law_e_size.nd (le_int))
        (ls_cons (ls_for PassesOwn.never rfl (li_rng1 (by rfl) Z.z_range (le_op op_sub L_sub (le_var 3) (le_var 2))) (lg_name 5 sc_law_e_size.nd) (ls_one (ls_set 4 sc_law_e_size.nd (le_op or_add L_add (le_op or_add L_add (le_op or_add L_add (le_int) (le_var 1)) (le_var 4)) (le_callTy call_int1 L_int (by rfl) Z.z_int (by decide +kernel) (la_cons (le_cmp op_gt L_gt (le_var 4) (le_int)) (la_nil)))))))
        (ls_one (ls_ret (le_op or_add L_add (le_op or_add L_add (le_op or_mul L_mul (le_var 2) (le_var 1)) (le_var 4)) (le_callTy call_int1 L_int (by rfl) Z.z_int (by decide +kernel) (la_cons (le_cmp op_gt L_gt (le_op or_add L_add (le_var 2) (le_callTy call_int1 L_int (by rfl) Z.z_int (by decide +kernel) (la_cons (le_cmp op_gt L_gt (le_var 3) (le_var 2)) (la_nil)))) (le_int)) (la_nil)))))))))))))
theorem ok_law_e_size (KW : κ.w = w) {f : Addr} {fd : FuncData} (F : Fun K "_law_e_size" "_law_e_size" s_law_e_size f fd) (G : mg "_law_e_size" = some (.ref f)) (Z : Zs K mg) (E : Es K mg κ) (n : Nat) : Cal P w K mg base κ (0 + n) "_law_e_size" 1 (f_law_e_size n) := ⟨f, fd, _, fn_law_e_size KW F G Z E n, G, F.kp, F.binds (ps := ["form"]) fun _ _ _ _ _ _ us hl => match us, hl with | [_], _ => rfl⟩
abbrev s_law_e_great : Stmt := topS 30
abbrev N_law_e_great : List Str := ["pen", "signs", "form", "turn", "low", "high", "way"]
theorem sc_law_e_great : FnScope N_law_e_great ["pen", "signs"] (defScope s_law_e_great) := ⟨rfl, rfl, rfl, by decide +kernel, rfl, by decide +kernel, by decide +kernel⟩
set_option maxHeartbeats 4000000 in
theorem fn_law_e_great (KW : κ.w = w) {f : Addr} {fd : FuncData} (F : Fun K "_law_e_great" "_law_e_great" s_law_e_great f fd) (Z : Zs K mg) (E : Es K mg κ) (C_law_e_form : Cal P w K mg base κ 13 "_law_e_form" 4 (f_law_e_form 12)) (C_law_e_take : Cal P w K mg base κ 1 "_law_e_take" 2 f_law_e_take) : FnOk P w K mg base CX0 14 f fd ["pen", "signs"] (spF0 K κ 2 f_law_e_great) :=
  fn_ok (κ := κ) F sc_law_e_great fun cdv A outer s H Ex hr => ls_cons (ls_set 2 sc_law_e_great.nd (le_calC C_law_e_form (hr.mono (by decide)) (by rfl) (la_cons (le_var 0) (la_cons (le_var 1) (la_cons (le_int) (la_cons (le_int) (la_nil)))))))
    (ls_cons (ls_for PassesOwn.never rfl (li_rng1 (by rfl) Z.z_range (le_calC C_law_e_take (hr.mono (by decide)) (by rfl) (la_cons (le_var 0) (la_cons (le_int) (la_nil))))) (lg_name 3 sc_law_e_great.nd) (ls_cons (ls_set 4 sc_law_e_great.nd (le_calC C_law_e_take (hr.mono (by decide)) (by rfl) (la_cons (le_var 0) (la_cons (le_int) (la_nil)))))
    (ls_cons (ls_set 5 sc_law_e_great.nd (le_ix (ix_any (hu65 hr)) (L_get KW) (le_lst (la_cons (le_non) (la_cons (le_callB (call_max2 rfl) L_max2 (by rfl) Z.z_max (by decide +kernel) (la_cons (le_int) (la_cons (le_var 4) (la_nil)))) (la_cons (le_int) (la_cons (le_callB (call_min2 rfl) L_min2 (by rfl) Z.z_min (by decide +kernel) (la_cons (le_int) (la_cons (le_op or_add L_add (le_callB (call_max2 rfl) L_max2 (by rfl) Z.z_max (by decide +kernel) (la_cons (le_int) (la_cons (le_var 4) (la_nil)))) (le_int)) (la_nil)))) (la_nil)))))) (le_calC C_law_e_take (hr.mono (by decide)) (by rfl) (la_cons (le_var 0) (la_cons (le_int) (la_nil)))) (fun _ _ => rfl)))
    (ls_cons (ls_if (lt_cmp (op_eqD hr.units) L_eq (le_calC C_law_e_take (hr.mono (by decide)) (by rfl) (la_cons (le_var 0) (la_cons (le_int) (la_nil)))) (le_int)) (ls_one (ls_asg (le_ix (ix_any (hu65 hr)) (L_get KW) (le_lst (la_cons (le_tup (la_cons (le_int) (la_cons (le_int) (la_nil)))) (la_cons (le_tup (la_cons (le_int) (la_cons (le_int) (la_nil)))) (la_cons (le_tup (la_cons (le_int) (la_cons (le_non) (la_nil)))) (la_cons (le_tup (la_cons (le_int) (la_cons (le_int) (la_nil)))) (la_cons (le_tup (la_cons (le_int) (la_cons (le_int) (la_nil)))) (la_cons (le_tup (la_cons (le_int) (la_cons (le_int) (la_nil)))) (la_cons (le_tup (la_cons (le_int) (la_cons (le_int) (la_nil)))) (la_nil))))))))) (le_calC C_law_e_take (hr.mono (by decide)) (by rfl) (la_cons (le_var 0) (la_cons (le_int) (la_nil)))) (fun _ _ => rfl)) (lg_tup rfl (lgs_cons (lg_name 4 sc_law_e_great.nd) (lgs_cons (lg_name 5 sc_law_e_great.nd) (lgs_nil)))))) (ls_nil))
    (ls_cons (ls_set 2 sc_law_e_great.nd (le_tup (la_cons (le_str) (la_cons (le_var 2) (la_cons (le_var 4) (la_cons (le_var 5) (la_nil)))))))
    (ls_cons (ls_set 6 sc_law_e_great.nd (le_calC C_law_e_take (hr.mono (by decide)) (by rfl) (la_cons (le_var 0) (la_cons (le_int) (la_nil)))))
    (ls_one (ls_if (lt_cmp op_lt L_lt (le_var 6) (le_int)) (ls_one (ls_set 2 sc_law_e_great.nd (le_ix (ix_any (hu65 hr)) (L_get KW) (le_lst (la_cons (le_tup (la_cons (le_str) (la_cons (le_tup (la_cons (le_var 2) (la_cons (le_tup (la_cons (le_str) (la_cons (le_ix (ix_any (hu65 hr)) (L_get KW) (le_var 1) (le_int) (fun _ _ => rfl)) (la_nil)))) (la_nil)))) (la_nil)))) (la_cons (le_tup (la_cons (le_str) (la_cons (le_tup (la_cons (le_tup (la_cons (le_str) (la_cons (le_ix (ix_any (hu65 hr)) (L_get KW) (le_var 1) (le_un un_neg L_neg (le_int)) (fun _ _ => rfl)) (la_nil)))) (la_cons (le_var 2) (la_nil)))) (la_nil)))) (la_nil)))) (le_var 6) (fun _ _ => rfl)))) (ls_nil)))))))))
    (ls_one (ls_ret (le_var 2))))
theorem ok_law_e_great (KW : κ.w = w) {f : Addr} {fd : FuncData} (F : Fun K "_law_e_great" "_law_e_great" s_law_e_great f fd) (G : mg "_law_e_great" = some (.ref f)) (Z : Zs K mg) (E : Es K mg κ) (C_law_e_form : Cal P w K mg base κ 13 "_law_e_form" 4 (f_law_e_form 12)) (C_law_e_take : Cal P w K mg base κ 1 "_law_e_take" 2 f_law_e_take) : Cal P w K mg base κ 14 "_law_e_great" 2 f_law_e_great := ⟨f, fd, _, fn_law_e_great KW F Z E C_law_e_form C_law_e_take, G, F.kp, F.binds (ps := ["pen", "signs"]) fun _ _ _ _ _ _ us hl => match us, hl with | [_, _], _ => rfl⟩
abbrev s_law_e_told_opened : Stmt := topS 31
abbrev N_law_e_told_opened : List Str := ["form", "found", "e", "some"]
theorem sc_law_e_told_opened : FnScope N_law_e_told_opened ["form"] (defScope s_law_e_told_opened) := ⟨rfl, rfl, rfl, by decide +kernel, rfl, by decide +kernel, by decide +kernel⟩
set_option maxHeartbeats 4000000 in
theorem fn_law_e_told_opened (KW : κ.w = w) {f : Addr} {fd : FuncData} (F : Fun K "_law_e_told_opened" "_law_e_told_opened" s_law_e_told_opened f fd) (Z : Zs K mg) (E : Es K mg κ) (C_opened : CalX P w K mg base κ 15 "opened" 1 f_opened) : FnOk P w K mg base CX0 16 f fd ["form"] (spF0 K κ 1 f_law_e_told_opened) :=
  fn_ok (κ := κ) F sc_law_e_told_opened fun cdv A outer s H Ex hr => ls_cons (ls_set 1 sc_law_e_told_opened.nd (le_tup (la_cons (le_str) (la_cons (le_non) (la_nil)))))
    (ls_cons (ls_tryAs rfl rfl sc_law_e_told_opened.nd rfl rfl ⟨by rfl, by decide, .inl E.g_WayError⟩ tkW0 (ht_WayError_ok E) (fun W pn xe tk po => ls_one (ls_set 1 sc_law_e_told_opened.nd (le_tup (la_cons (le_str) (la_cons (le_calX C_opened (hr.mono (by decide)) tk (by rfl) (la_cons (le_var 0) (la_nil))) (la_nil)))))) (fun a oe cls d pn cn hz hf hcn => ls_cons (ls_set 3 sc_law_e_told_opened.nd (le_lst (la_cons (le_isEt hz hf hcn (tb_law_e_told_opened_0_ok E) (by rfl) Z.z_isinstance (pe_var (by rfl) (Or.inl rfl)) (pak_cons (pe_glob (v := .ref (κ 7)) (by rfl) E.g_NoName rfl) (pak_cons (pe_glob (v := .ref (κ 4)) (by rfl) E.g_NotOnce rfl) (pak_cons (pe_glob (v := .ref (κ 6)) (by rfl) E.g_NoRow rfl) (pak_cons (pe_glob (v := .ref (κ 5)) (by rfl) E.g_NoSign rfl) (pak_cons (pe_glob (v := .ref (κ 1)) (by rfl) E.g_NoText rfl) (pak_cons (pe_glob (v := .ref (κ 3)) (by rfl) E.g_TooWide rfl) (pak_nil))))))) (vals_consK relV_ref (vals_consK relV_ref (vals_consK relV_ref (vals_consK relV_ref (vals_consK relV_ref (vals_consK relV_ref (vals_nilK)))))))) (la_cons (le_not (le_isE1 hz hf hcn (tb_law_e_told_opened_1_ok E) (by rfl) Z.z_isinstance (pe_var (by rfl) (Or.inl rfl)) (pe_bltn (v := .ty "ValueError") (by rfl) Z.z_ValueError (by decide +kernel) rfl) relV_ty)) (la_nil)))))
    (ls_one (ls_if (lt_w (lw_and (lt_val (le_isE1 hz hf hcn (tb_law_e_told_opened_2_ok E) (by rfl) Z.z_isinstance (pe_var (by rfl) (Or.inl rfl)) (pe_glob (v := .ref (κ 2)) (by rfl) E.g_TooMany rfl) relV_ref)) (lw_and1 (lt_cmp (or_notIn (hu65m hr)) (L_notIn KW) (le_bl) (le_var 3))))) (ls_one (ls_set 1 sc_law_e_told_opened.nd (le_tup (la_cons (le_str) (la_cons (le_xf hz hf hcn E.x_TooMany.toXfC E.n_TooMany (pe_var (by rfl) (Or.inl rfl))) (la_nil)))))) (ls_nil)))))
    (ls_one (ls_ret (le_var 1))))
theorem ok_law_e_told_opened (KW : κ.w = w) {f : Addr} {fd : FuncData} (F : Fun K "_law_e_told_opened" "_law_e_told_opened" s_law_e_told_opened f fd) (G : mg "_law_e_told_opened" = some (.ref f)) (Z : Zs K mg) (E : Es K mg κ) (C_opened : CalX P w K mg base κ 15 "opened" 1 f_opened) : Cal P w K mg base κ 16 "_law_e_told_opened" 1 f_law_e_told_opened := ⟨f, fd, _, fn_law_e_told_opened KW F Z E C_opened, G, F.kp, F.binds (ps := ["form"]) fun _ _ _ _ _ _ us hl => match us, hl with | [_], _ => rfl⟩
abbrev s_law_e_opened_right : Stmt := topS 32
abbrev N_law_e_opened_right : List Str := ["form", "due", "kept", "again"]
theorem sc_law_e_opened_right : FnScope N_law_e_opened_right ["form"] (defScope s_law_e_opened_right) := ⟨rfl, rfl, rfl, by decide +kernel, rfl, by decide +kernel, by decide +kernel⟩
set_option maxHeartbeats 4000000 in
theorem fn_law_e_opened_right (KW : κ.w = w) {f : Addr} {fd : FuncData} (F : Fun K "_law_e_opened_right" "_law_e_opened_right" s_law_e_opened_right f fd) (Z : Zs K mg) (E : Es K mg κ) (C_law_e_size : Cal P w K mg base κ 12 "_law_e_size" 1 (f_law_e_size 12)) (C_law_e_opened : Cal P w K mg base κ 12 "_law_e_opened" 1 (f_law_e_opened 12)) (C_law_e_told_opened : Cal P w K mg base κ 16 "_law_e_told_opened" 1 f_law_e_told_opened) : FnG P w K mg base CX0 34 f fd ["form"] (spF0 K κ 1 f_law_e_opened_right) :=
  fnG_ok (κ := κ) F sc_law_e_opened_right fun cdv A outer s H Ex hgd hr => ls_cons (ls_set 1 sc_law_e_opened_right.nd (le_tup (la_cons (le_str) (la_cons (le_int) (la_nil)))))
    (ls_cons (ls_if (lt_cmp op_le L_le (le_calC C_law_e_size (hr.mono (by decide)) (by rfl) (la_cons (le_var 0) (la_nil))) (le_int)) (ls_one (ls_set 1 sc_law_e_opened_right.nd (le_tup (la_cons (le_str) (la_cons (le_calC C_law_e_opened (hr.mono (by decide)) (by rfl) (la_cons (le_var 0) (la_nil))) (la_nil)))))) (ls_nil))
    (ls_cons (ls_set 2 sc_law_e_opened_right.nd (le_callB (call_reprG hgd (hu702 hr (by decide))) L_reprG (by rfl) Z.z_repr (by decide +kernel) (la_cons (le_var 0) (la_nil))))
    (ls_cons (ls_for PassesOwn.never rfl (li_rng1 (by rfl) Z.z_range (le_int)) (lg_name 3 sc_law_e_opened_right.nd) (ls_one (ls_if (lt_w (lw_or (lt_cmp (op_neD hr.units) L_ne (le_callB (call_reprG hgd (hu702 hr (by decide))) L_reprG (by rfl) Z.z_repr (by decide +kernel) (la_cons (le_calC C_law_e_told_opened (hr.mono (by decide)) (by rfl) (la_cons (le_var 0) (la_nil))) (la_nil))) (le_callB (call_reprG hgd (hu702 hr (by decide))) L_reprG (by rfl) Z.z_repr (by decide +kernel) (la_cons (le_var 1) (la_nil)))) (lw_or1 (lt_cmp (op_neD hr.units) L_ne (le_callB (call_reprG hgd (hu702 hr (by decide))) L_reprG (by rfl) Z.z_repr (by decide +kernel) (la_cons (le_var 0) (la_nil))) (le_var 2))))) (ls_one (ls_ret (le_bl))) (ls_nil))))
    (ls_one (ls_ret (le_bl))))))
theorem ok_law_e_opened_right (KW : κ.w = w) {f : Addr} {fd : FuncData} (F : Fun K "_law_e_opened_right" "_law_e_opened_right" s_law_e_opened_right f fd) (G : mg "_law_e_opened_right" = some (.ref f)) (Z : Zs K mg) (E : Es K mg κ) (C_law_e_size : Cal P w K mg base κ 12 "_law_e_size" 1 (f_law_e_size 12)) (C_law_e_opened : Cal P w K mg base κ 12 "_law_e_opened" 1 (f_law_e_opened 12)) (C_law_e_told_opened : Cal P w K mg base κ 16 "_law_e_told_opened" 1 f_law_e_told_opened) : CalG P w K mg base κ 34 "_law_e_opened_right" 1 f_law_e_opened_right := ⟨f, fd, _, fn_law_e_opened_right KW F Z E C_law_e_size C_law_e_opened C_law_e_told_opened, G, F.kp, F.binds (ps := ["form"]) fun _ _ _ _ _ _ us hl => match us, hl with | [_], _ => rfl⟩
abbrev s_law : Stmt := topS 33
abbrev N_law : List Str := ["script", "pen", "turn", "one", "twelve", "many", "last", "form"]
theorem sc_law : FnScope N_law ["script"] (defScope s_law) := ⟨rfl, rfl, rfl, by decide +kernel, rfl, by decide +kernel, by decide +kernel⟩
set_option maxHeartbeats 4000000 in
theorem fn_law (KW : κ.w = w) {f : Addr} {fd : FuncData} (F : Fun K "law" "law" s_law f fd) (Z : Zs K mg) (E : Es K mg κ) (C_law_e_pen : Cal P w K mg base κ 1 "_law_e_pen" 1 f_law_e_pen) (C_law_e_signs : Cal P w K mg base κ 2 "_law_e_signs" 1 f_law_e_signs) (C_law_e_great : Cal P w K mg base κ 14 "_law_e_great" 2 f_law_e_great) (C_law_e_opened_right : CalG P w K mg base κ 34 "_law_e_opened_right" 1 f_law_e_opened_right) (C_law_e_size : Cal P w K mg base κ 12 "_law_e_size" 1 (f_law_e_size 12)) : FnG P w K mg base CX0 35 f fd ["script"] (spF0 K κ 1 f_law) :=
  fnG_ok (κ := κ) F sc_law fun cdv A outer s H Ex hgd hr => ls_cons (ls_set 1 sc_law.nd (le_calC C_law_e_pen (hr.mono (by decide)) (by rfl) (la_cons (le_var 0) (la_nil))))
    (ls_cons (ls_for PassesOwn.never rfl (li_rng1 (by rfl) Z.z_range (le_int)) (lg_name 2 sc_law.nd) (ls_one (ls_if (lt_not (lt_val (le_calG C_law_e_opened_right hgd (hr.mono (by decide)) (by rfl) (la_cons (le_calC C_law_e_great (hr.mono (by decide)) (by rfl) (la_cons (le_var 1) (la_cons (le_calC C_law_e_signs (hr.mono (by decide)) (by rfl) (la_cons (le_var 1) (la_nil))) (la_nil)))) (la_nil))))) (ls_one (ls_ret (le_bl))) (ls_nil))))
    (ls_cons (ls_set 3 sc_law.nd (le_tup (la_cons (le_str) (la_cons (le_ix (ix_any (hu65 hr)) (L_get KW) (le_calC C_law_e_signs (hr.mono (by decide)) (by rfl) (la_cons (le_var 1) (la_nil))) (le_int) (fun _ _ => rfl)) (la_nil)))))
    (ls_cons (ls_set 4 sc_law.nd (le_tup (la_cons (le_str) (la_cons (le_var 3) (la_cons (le_int) (la_cons (le_int) (la_nil)))))))
    (ls_cons (ls_for PassesOwn.never rfl (li_any (le_lst (la_cons (le_int) (la_cons (le_int) (la_nil))))) (lg_name 5 sc_law.nd) (ls_cons (ls_set 6 sc_law.nd (le_tup (la_cons (le_str) (la_cons (le_op or_add L_add (le_tup (la_cons (le_var 4) (la_cons (le_tup (la_cons (le_str) (la_cons (le_var 3) (la_cons (le_int) (la_cons (le_int) (la_nil)))))) (la_nil)))) (le_op or_mul L_mul (le_tup (la_cons (le_var 3) (la_nil))) (le_var 5))) (la_nil)))))
    (ls_cons (ls_set 7 sc_law.nd (le_tup (la_cons (le_str) (la_cons (le_op or_add L_add (le_op or_mul L_mul (le_tup (la_cons (le_var 4) (la_nil))) (le_int)) (le_tup (la_cons (le_var 6) (la_nil)))) (la_nil)))))
    (ls_one (ls_if (lt_w (lw_or (lt_cmp (op_neD hr.units) L_ne (le_calC C_law_e_size (hr.mono (by decide)) (by rfl) (la_cons (le_var 7) (la_nil))) (le_op or_add L_add (le_int) (le_var 5))) (lw_or1 (lt_not (lt_val (le_calG C_law_e_opened_right hgd (hr.mono (by decide)) (by rfl) (la_cons (le_var 7) (la_nil)))))))) (ls_one (ls_ret (le_bl))) (ls_nil))))))
    (ls_one (ls_ret (le_bl)))))))
theorem ok_law (KW : κ.w = w) {f : Addr} {fd : FuncData} (F : Fun K "law" "law" s_law f fd) (G : mg "law" = some (.ref f)) (Z : Zs K mg) (E : Es K mg κ) (C_law_e_pen : Cal P w K mg base κ 1 "_law_e_pen" 1 f_law_e_pen) (C_law_e_signs : Cal P w K mg base κ 2 "_law_e_signs" 1 f_law_e_signs) (C_law_e_great : Cal P w K mg base κ 14 "_law_e_great" 2 f_law_e_great) (C_law_e_opened_right : CalG P w K mg base κ 34 "_law_e_opened_right" 1 f_law_e_opened_right) (C_law_e_size : Cal P w K mg base κ 12 "_law_e_size" 1 (f_law_e_size 12)) : CalG P w K mg base κ 35 "law" 1 f_law := ⟨f, fd, _, fn_law KW F Z E C_law_e_pen C_law_e_signs C_law_e_great C_law_e_opened_right C_law_e_size, G, F.kp, F.binds (ps := ["script"]) fun _ _ _ _ _ _ us hl => match us, hl with | [_], _ => rfl⟩
end
theorem all_ok {l : PySem.W.OpenLaw} {w : World} {K : PySem.W.Frag} {h : Heap} {mg : Str → Option Value} {fa : Addr} (X : K.In h) (G : h.Ns mainGlobals mg) (hfa : mg "law" = some (.ref fa))
    {C3 : Addr} (aC3 : PySem.W.nsIn K mainGlobals "TooWide" = some (some (.ref C3)))
    (ic3 : PySem.W.isClsIn K C3 = true) (ty3 : PySem.W.typeIn K (.ref C3) = some (.type "type"))
    {C1 : Addr} (aC1 : PySem.W.nsIn K mainGlobals "NoText" = some (some (.ref C1)))
    (ic1 : PySem.W.isClsIn K C1 = true) (ty1 : PySem.W.typeIn K (.ref C1) = some (.type "type"))
    {C5 : Addr} (aC5 : PySem.W.nsIn K mainGlobals "NoSign" = some (some (.ref C5)))
    (ic5 : PySem.W.isClsIn K C5 = true) (ty5 : PySem.W.typeIn K (.ref C5) = some (.type "type"))
    {C6 : Addr} (aC6 : PySem.W.nsIn K mainGlobals "NoRow" = some (some (.ref C6)))
    (ic6 : PySem.W.isClsIn K C6 = true) (ty6 : PySem.W.typeIn K (.ref C6) = some (.type "type"))
    {C4 : Addr} (aC4 : PySem.W.nsIn K mainGlobals "NotOnce" = some (some (.ref C4)))
    (ic4 : PySem.W.isClsIn K C4 = true) (ty4 : PySem.W.typeIn K (.ref C4) = some (.type "type"))
    {C7 : Addr} (aC7 : PySem.W.nsIn K mainGlobals "NoName" = some (some (.ref C7)))
    (ic7 : PySem.W.isClsIn K C7 = true) (ty7 : PySem.W.typeIn K (.ref C7) = some (.type "type"))
    {C2 : Addr} (aC2 : PySem.W.nsIn K mainGlobals "TooMany" = some (some (.ref C2)))
    (ic2 : PySem.W.isClsIn K C2 = true) (ty2 : PySem.W.typeIn K (.ref C2) = some (.type "type"))
    {C0 : Addr} (aC0 : PySem.W.nsIn K mainGlobals "WayError" = some (some (.ref C0)))
    (ic0 : PySem.W.isClsIn K C0 = true) (ty0 : PySem.W.typeIn K (.ref C0) = some (.type "type"))
    (sb0 : PySem.W.subIn K (.ref C0) (.type "BaseException") = some true)
    (xga2 : PySem.W.findIn K (.ref C2) "__getattribute__" = some (some (.builtin "BaseException.__getattribute__"))) (xgg2 : PySem.W.findIn K (.ref C2) "__getattr__" = some none) (xsb2 : PySem.W.subIn K (.ref C2) (.type "BaseException") = some true) (xhd2 : PySem.W.hasDictIn K C2 = true) (xcl2 : PySem.W.findIn K (.ref C2) "__class__" = some (some (.builtin "object.__class__"))) (xmr2 : PySem.W.mroIn K C2 (.type "object") = some true) (xic2 : PySem.W.isClsIn K C2 = true) (xty2 : PySem.W.typeIn K (.ref C2) = some (.type "type")) (xkc2 : PySem.W.keepIn K (.ref C2) = true)
    (xno2 : PySem.W.findIn K (.ref C2) "most" = some none)
    {nm2 q2 : Str} {N2 : Addr} {bs2 : List Value} {sn2 : List Str} {sub2 : List Value} {ab2 : Bool} {col2 : Option Bool} {dd2 : Option Addr} {m02 m12 m22 m32 m52 : Option Value}
    (xL2 : K.lookup C2 = some (excClassObj nm2 q2 C2 N2 bs2 [.ref C0, .type "ValueError", .type "Exception", .type "BaseException", .type "object"] true sn2 sub2 ab2 col2 dd2 m02 m12 m22 m32 m52 "ValueError.__new__")) (xsa2 : PySem.W.findIn K (.ref C2) "__setattr__" = some (some (.builtin "object.__setattr__")))
    {fI2 : Addr} {odI2 anI2 : Option Addr} {slI2 : Array (Option Value)} {ocI2 kVI2 dcI2 pmI2 cdI2 ctI2 : Value}
    (aI2 : PySem.W.findIn K (.ref C2) "__init__" = some (some (.ref fI2))) (tI2 : PySem.W.typeIn K (.ref fI2) = some (.type "function")) (lI2 : K.lookup fI2 = some ⟨ocI2, odI2, .func (PySem.W.fnOf "__init__" "TooMany.__init__" (defArgs s_TooMany_init) (defBody s_TooMany_init) (defScope s_TooMany_init) .none kVI2 dcI2 pmI2 anI2 cdI2 ctI2), slI2⟩) (cI2 : PySem.W.codeIn K cdI2 "TooMany.__init__" = true) (kI2 : PySem.W.keepIn K (.ref fI2) = true)
    (sx2_7 : PySem.W.subIn K (.ref C2) (.ref C7) = some false)
    (sx2_4 : PySem.W.subIn K (.ref C2) (.ref C4) = some false)
    (sx2_6 : PySem.W.subIn K (.ref C2) (.ref C6) = some false)
    (sx2_5 : PySem.W.subIn K (.ref C2) (.ref C5) = some false)
    (sx2_1 : PySem.W.subIn K (.ref C2) (.ref C1) = some false)
    (sx2_3 : PySem.W.subIn K (.ref C2) (.ref C3) = some false)
    (sx2_2 : PySem.W.subIn K (.ref C2) (.ref C2) = some true)
    (sx2_0 : PySem.W.subIn K (.ref C2) (.ref C0) = some true)
    (sx2_ValueError : PySem.W.subIn K (.ref C2) (.type "ValueError") = some true)
    (gsp : PySem.W.specialIn K (.builtin "object.__class__") "__get__" = some (some (.builtin "getset_descriptor.__get__"))) (gtk : PySem.W.takesIn K (.builtin "object.__class__") = some true)
    (rd0 : PySem.W.readsIn K C0 (.type "type") = true) (rg0 : PySem.W.specialIn K (.ref C0) "__getattribute__" = some (some (.builtin "type.__getattribute__"))) (fc0 : PySem.W.findCls K (.ref C0) (.type "type") "__init__" = some (.val (.builtin "ValueError.__init__")))
    (z_str : PySem.W.nsIn K mainGlobals "str" = some none)
    {aG_PLAIN : Addr} {nG_PLAIN : Nat} {slG_PLAIN : Array (Option Value)} {tG_PLAIN_0 : Addr} {mG_PLAIN_0 : Nat} {sG_PLAIN_0 : Array (Option Value)} {tG_PLAIN_1 : Addr} {mG_PLAIN_1 : Nat} {sG_PLAIN_1 : Array (Option Value)} {tG_PLAIN_2 : Addr} {mG_PLAIN_2 : Nat} {sG_PLAIN_2 : Array (Option Value)}
    (gG_PLAIN : PySem.W.nsIn K mainGlobals "PLAIN" = some (some (.ref aG_PLAIN))) (lG_PLAIN : K.lookup aG_PLAIN = some ⟨.type "list", .none, .seq #[.ref tG_PLAIN_0, .ref tG_PLAIN_1, .ref tG_PLAIN_2] nG_PLAIN, slG_PLAIN⟩)
    {kG_PLAIN_0_0 : Tok}
    {kG_PLAIN_0_1 : Tok}
    (l_PLAIN_0 : K.lookup tG_PLAIN_0 = some ⟨.type "tuple", .none, .seq #[.int 0 kG_PLAIN_0_0, .int 1 kG_PLAIN_0_1] mG_PLAIN_0, sG_PLAIN_0⟩)
    {kG_PLAIN_1_0 : Tok}
    (l_PLAIN_1 : K.lookup tG_PLAIN_1 = some ⟨.type "tuple", .none, .seq #[.int 0 kG_PLAIN_1_0, .none] mG_PLAIN_1, sG_PLAIN_1⟩)
    {kG_PLAIN_2_0 : Tok}
    (l_PLAIN_2 : K.lookup tG_PLAIN_2 = some ⟨.type "tuple", .none, .seq #[.int 1 kG_PLAIN_2_0, .none] mG_PLAIN_2, sG_PLAIN_2⟩)
    {f0 : Addr} {od0 an0 : Option Addr} {sl0 : Array (Option Value)} {oc0 kV0 dc0 pm0 cd0 ct0 : Value}
    (a0 : PySem.W.nsIn K mainGlobals "parts_of" = some (some (.ref f0)))
    (l0 : K.lookup f0 = some ⟨oc0, od0, .func (PySem.W.fnOf "parts_of" "parts_of" (defArgs s_parts_of) (defBody s_parts_of) (defScope s_parts_of) .none kV0 dc0 pm0 an0 cd0 ct0), sl0⟩) (c0 : PySem.W.codeIn K cd0 "parts_of" = true) (k0 : PySem.W.keepIn K (.ref f0) = true)
    {f1 : Addr} {od1 an1 : Option Addr} {sl1 : Array (Option Value)} {oc1 kV1 dc1 pm1 cd1 ct1 : Value}
    (a1 : PySem.W.nsIn K mainGlobals "pieces_opened" = some (some (.ref f1)))
    (l1 : K.lookup f1 = some ⟨oc1, od1, .func (PySem.W.fnOf "pieces_opened" "pieces_opened" (defArgs s_pieces_opened) (defBody s_pieces_opened) (defScope s_pieces_opened) .none kV1 dc1 pm1 an1 cd1 ct1), sl1⟩) (c1 : PySem.W.codeIn K cd1 "pieces_opened" = true) (k1 : PySem.W.keepIn K (.ref f1) = true)
    {f2 : Addr} {od2 an2 : Option Addr} {sl2 : Array (Option Value)} {oc2 kV2 dc2 pm2 cd2 ct2 : Value}
    (a2 : PySem.W.nsIn K mainGlobals "put_in_a_row" = some (some (.ref f2)))
    (l2 : K.lookup f2 = some ⟨oc2, od2, .func (PySem.W.fnOf "put_in_a_row" "put_in_a_row" (defArgs s_put_in_a_row) (defBody s_put_in_a_row) (defScope s_put_in_a_row) .none kV2 dc2 pm2 an2 cd2 ct2), sl2⟩) (c2 : PySem.W.codeIn K cd2 "put_in_a_row" = true) (k2 : PySem.W.keepIn K (.ref f2) = true)
    {f3 : Addr} {od3 an3 : Option Addr} {sl3 : Array (Option Value)} {oc3 kV3 dc3 pm3 cd3 ct3 : Value}
    (a3 : PySem.W.nsIn K mainGlobals "laid_out" = some (some (.ref f3)))
    (l3 : K.lookup f3 = some ⟨oc3, od3, .func (PySem.W.fnOf "laid_out" "laid_out" (defArgs s_laid_out) (defBody s_laid_out) (defScope s_laid_out) .none kV3 dc3 pm3 an3 cd3 ct3), sl3⟩) (c3 : PySem.W.codeIn K cd3 "laid_out" = true) (k3 : PySem.W.keepIn K (.ref f3) = true)
    {f4 : Addr} {od4 an4 : Option Addr} {sl4 : Array (Option Value)} {oc4 kV4 dc4 pm4 cd4 ct4 : Value}
    (a4 : PySem.W.nsIn K mainGlobals "opened_inside" = some (some (.ref f4)))
    (l4 : K.lookup f4 = some ⟨oc4, od4, .func (PySem.W.fnOf "opened_inside" "opened_inside" (defArgs s_opened_inside) (defBody s_opened_inside) (defScope s_opened_inside) .none kV4 dc4 pm4 an4 cd4 ct4), sl4⟩) (c4 : PySem.W.codeIn K cd4 "opened_inside" = true) (k4 : PySem.W.keepIn K (.ref f4) = true)
    {f5 : Addr} {od5 an5 : Option Addr} {sl5 : Array (Option Value)} {oc5 kV5 dc5 pm5 cd5 ct5 : Value}
    (a5 : PySem.W.nsIn K mainGlobals "opened" = some (some (.ref f5)))
    (l5 : K.lookup f5 = some ⟨oc5, od5, .func (PySem.W.fnOf "opened" "opened" (defArgs s_opened) (defBody s_opened) (defScope s_opened) .none kV5 dc5 pm5 an5 cd5 ct5), sl5⟩) (c5 : PySem.W.codeIn K cd5 "opened" = true) (k5 : PySem.W.keepIn K (.ref f5) = true)
    {f6 : Addr} {od6 an6 : Option Addr} {sl6 : Array (Option Value)} {oc6 kV6 dc6 pm6 cd6 ct6 : Value}
    (a6 : PySem.W.nsIn K mainGlobals "_law_e_pen" = some (some (.ref f6)))
    (l6 : K.lookup f6 = some ⟨oc6, od6, .func (PySem.W.fnOf "_law_e_pen" "_law_e_pen" (defArgs s_law_e_pen) (defBody s_law_e_pen) (defScope s_law_e_pen) .none kV6 dc6 pm6 an6 cd6 ct6), sl6⟩) (c6 : PySem.W.codeIn K cd6 "_law_e_pen" = true) (k6 : PySem.W.keepIn K (.ref f6) = true)
    {f7 : Addr} {od7 an7 : Option Addr} {sl7 : Array (Option Value)} {oc7 kV7 dc7 pm7 cd7 ct7 : Value}
    (a7 : PySem.W.nsIn K mainGlobals "_law_e_take" = some (some (.ref f7)))
    (l7 : K.lookup f7 = some ⟨oc7, od7, .func (PySem.W.fnOf "_law_e_take" "_law_e_take" (defArgs s_law_e_take) (defBody s_law_e_take) (defScope s_law_e_take) .none kV7 dc7 pm7 an7 cd7 ct7), sl7⟩) (c7 : PySem.W.codeIn K cd7 "_law_e_take" = true) (k7 : PySem.W.keepIn K (.ref f7) = true)
    {f8 : Addr} {od8 an8 : Option Addr} {sl8 : Array (Option Value)} {oc8 kV8 dc8 pm8 cd8 ct8 : Value}
    (a8 : PySem.W.nsIn K mainGlobals "_law_e_signs" = some (some (.ref f8)))
    (l8 : K.lookup f8 = some ⟨oc8, od8, .func (PySem.W.fnOf "_law_e_signs" "_law_e_signs" (defArgs s_law_e_signs) (defBody s_law_e_signs) (defScope s_law_e_signs) .none kV8 dc8 pm8 an8 cd8 ct8), sl8⟩) (c8 : PySem.W.codeIn K cd8 "_law_e_signs" = true) (k8 : PySem.W.keepIn K (.ref f8) = true)
    {f9 : Addr} {od9 an9 : Option Addr} {sl9 : Array (Option Value)} {oc9 kV9 dc9 pm9 cd9 ct9 : Value}
    (a9 : PySem.W.nsIn K mainGlobals "_law_e_form" = some (some (.ref f9)))
    (l9 : K.lookup f9 = some ⟨oc9, od9, .func (PySem.W.fnOf "_law_e_form" "_law_e_form" (defArgs s_law_e_form) (defBody s_law_e_form) (defScope s_law_e_form) .none kV9 dc9 pm9 an9 cd9 ct9), sl9⟩) (c9 : PySem.W.codeIn K cd9 "_law_e_form" = true) (k9 : PySem.W.keepIn K (.ref f9) = true)
    {f10 : Addr} {od10 an10 : Option Addr} {sl10 : Array (Option Value)} {oc10 kV10 dc10 pm10 cd10 ct10 : Value}
    (a10 : PySem.W.nsIn K mainGlobals "_law_e_opened" = some (some (.ref f10)))
    (l10 : K.lookup f10 = some ⟨oc10, od10, .func (PySem.W.fnOf "_law_e_opened" "_law_e_opened" (defArgs s_law_e_opened) (defBody s_law_e_opened) (defScope s_law_e_opened) .none kV10 dc10 pm10 an10 cd10 ct10), sl10⟩) (c10 : PySem.W.codeIn K cd10 "_law_e_opened" = true) (k10 : PySem.W.keepIn K (.ref f10) = true)
    {f11 : Addr} {od11 an11 : Option Addr} {sl11 : Array (Option Value)} {oc11 kV11 dc11 pm11 cd11 ct11 : Value}
    (a11 : PySem.W.nsIn K mainGlobals "_law_e_size" = some (some (.ref f11)))
    (l11 : K.lookup f11 = some ⟨oc11, od11, .func (PySem.W.fnOf "_law_e_size" "_law_e_size" (defArgs s_law_e_size) (defBody s_law_e_size) (defScope s_law_e_size) .none kV11 dc11 pm11 an11 cd11 ct11), sl11⟩) (c11 : PySem.W.codeIn K cd11 "_law_e_size" = true) (k11 : PySem.W.keepIn K (.ref f11) = true)
    {f12 : Addr} {od12 an12 : Option Addr} {sl12 : Array (Option Value)} {oc12 kV12 dc12 pm12 cd12 ct12 : Value}
    (a12 : PySem.W.nsIn K mainGlobals "_law_e_great" = some (some (.ref f12)))
    (l12 : K.lookup f12 = some ⟨oc12, od12, .func (PySem.W.fnOf "_law_e_great" "_law_e_great" (defArgs s_law_e_great) (defBody s_law_e_great) (defScope s_law_e_great) .none kV12 dc12 pm12 an12 cd12 ct12), sl12⟩) (c12 : PySem.W.codeIn K cd12 "_law_e_great" = true) (k12 : PySem.W.keepIn K (.ref f12) = true)
    {f13 : Addr} {od13 an13 : Option Addr} {sl13 : Array (Option Value)} {oc13 kV13 dc13 pm13 cd13 ct13 : Value}
    (a13 : PySem.W.nsIn K mainGlobals "_law_e_told_opened" = some (some (.ref f13)))
    (l13 : K.lookup f13 = some ⟨oc13, od13, .func (PySem.W.fnOf "_law_e_told_opened" "_law_e_told_opened" (defArgs s_law_e_told_opened) (defBody s_law_e_told_opened) (defScope s_law_e_told_opened) .none kV13 dc13 pm13 an13 cd13 ct13), sl13⟩) (c13 : PySem.W.codeIn K cd13 "_law_e_told_opened" = true) (k13 : PySem.W.keepIn K (.ref f13) = true)
    {f14 : Addr} {od14 an14 : Option Addr} {sl14 : Array (Option Value)} {oc14 kV14 dc14 pm14 cd14 ct14 : Value}
    (a14 : PySem.W.nsIn K mainGlobals "_law_e_opened_right" = some (some (.ref f14)))
    (l14 : K.lookup f14 = some ⟨oc14, od14, .func (PySem.W.fnOf "_law_e_opened_right" "_law_e_opened_right" (defArgs s_law_e_opened_right) (defBody s_law_e_opened_right) (defScope s_law_e_opened_right) .none kV14 dc14 pm14 an14 cd14 ct14), sl14⟩) (c14 : PySem.W.codeIn K cd14 "_law_e_opened_right" = true) (k14 : PySem.W.keepIn K (.ref f14) = true)
    {f15 : Addr} {od15 an15 : Option Addr} {sl15 : Array (Option Value)} {oc15 kV15 dc15 pm15 cd15 ct15 : Value}
    (a15 : PySem.W.nsIn K mainGlobals "law" = some (some (.ref f15)))
    (l15 : K.lookup f15 = some ⟨oc15, od15, .func (PySem.W.fnOf "law" "law" (defArgs s_law) (defBody s_law) (defScope s_law) .none kV15 dc15 pm15 an15 cd15 ct15), sl15⟩) (c15 : PySem.W.codeIn K cd15 "law" = true) (k15 : PySem.W.keepIn K (.ref f15) = true)
    (z_ValueError : PySem.W.nsIn K mainGlobals "ValueError" = some none)
    (z_int : PySem.W.nsIn K mainGlobals "int" = some none)
    (z_isinstance : PySem.W.nsIn K mainGlobals "isinstance" = some none)
    (z_len : PySem.W.nsIn K mainGlobals "len" = some none)
    (z_list : PySem.W.nsIn K mainGlobals "list" = some none)
    (z_max : PySem.W.nsIn K mainGlobals "max" = some none)
    (z_min : PySem.W.nsIn K mainGlobals "min" = some none)
    (z_range : PySem.W.nsIn K mainGlobals "range" = some none)
    (z_repr : PySem.W.nsIn K mainGlobals "repr" = some none)
    (z_sorted : PySem.W.nsIn K mainGlobals "sorted" = some none)
    (z_sum : PySem.W.nsIn K mainGlobals "sum" = some none)
    (z_tuple : PySem.W.nsIn K mainGlobals "tuple" = some none)
    {u_MOST_PIECES : Value} (v_MOST_PIECES : PySem.W.nsIn K mainGlobals "MOST_PIECES" = some (some u_MOST_PIECES)) (r_MOST_PIECES : RelV (.int 300) u_MOST_PIECES)
    : ∃ fd : FuncData, (∀ (s : Shared) (v : Value), BindsTo s fd ⟨[v], []⟩ [("script", v)]) ∧ ∀ base : Heap, K.In base → base.Ns mainGlobals mg → FnG l.prog w K mg base CX0 35 fa fd ["script"] (spFX K w 1 f_law) := by
  have Z : Zs K mg := ⟨PySem.W.mg_none_of X G z_ValueError, PySem.W.mg_none_of X G z_int, PySem.W.mg_none_of X G z_isinstance, PySem.W.mg_none_of X G z_len, PySem.W.mg_none_of X G z_list, PySem.W.mg_none_of X G z_max, PySem.W.mg_none_of X G z_min, PySem.W.mg_none_of X G z_range, PySem.W.mg_none_of X G z_repr, PySem.W.mg_none_of X G z_sorted, PySem.W.mg_none_of X G z_sum, PySem.W.mg_none_of X G z_tuple, gc_pairs (ts := [(some 0, some 1), (some 0, none), (some 1, none)]) (as := [tG_PLAIN_0, tG_PLAIN_1, tG_PLAIN_2]) (PySem.W.mg_of X G gG_PLAIN) lG_PLAIN rfl rfl rfl (by decide) (.cons ⟨_, _, _, _, l_PLAIN_0, rfl, rfl, rfl, ⟨_, rfl⟩, ⟨_, rfl⟩⟩ (.cons ⟨_, _, _, _, l_PLAIN_1, rfl, rfl, rfl, ⟨_, rfl⟩, rfl⟩ (.cons ⟨_, _, _, _, l_PLAIN_2, rfl, rfl, rfl, ⟨_, rfl⟩, rfl⟩ .nil))), ⟨_, PySem.W.mg_of X G v_MOST_PIECES, r_MOST_PIECES⟩⟩
  let κ : Kap := ⟨fun n => match n with | 0 => C0 | 1 => C1 | 2 => C2 | 3 => C3 | 4 => C4 | 5 => C5 | 6 => C6 | 7 => C7 | _ => 0, w⟩
  have E : Es K mg κ := ⟨PySem.W.mg_of X G aC3, PySem.W.mg_of X G aC1, PySem.W.mg_of X G aC5, PySem.W.mg_of X G aC6, PySem.W.mg_of X G aC4, PySem.W.mg_of X G aC7, PySem.W.mg_of X G aC2, PySem.W.mg_of X G aC0, ⟨⟨xga2, xgg2, xsb2, xhd2, xcl2, gsp, gtk, xmr2⟩, ⟨xga2, xgg2, xsb2, xhd2⟩, xic2⟩, xno2, xkc2, xsb2, xty2, kit_ref sx2_7 ic7 ty7 sx2_2, kit_ref sx2_4 ic4 ty4 sx2_2, kit_ref sx2_6 ic6 ty6 sx2_2, kit_ref sx2_5 ic5 ty5 sx2_2, kit_ref sx2_1 ic1 ty1 sx2_2, kit_ref sx2_3 ic3 ty3 sx2_2, kit_ref sx2_2 ic2 ty2 sx2_2, kit_ty sx2_ValueError, exm_ref sx2_0 sb0 ic0 ty0⟩
  have F0 := fun_mk (st := s_parts_of) l0 c0 k0
  have g0 := PySem.W.mg_of X G a0
  have F1 := fun_mk (st := s_pieces_opened) l1 c1 k1
  have g1 := PySem.W.mg_of X G a1
  have F2 := fun_mk (st := s_put_in_a_row) l2 c2 k2
  have g2 := PySem.W.mg_of X G a2
  have F3 := fun_mk (st := s_laid_out) l3 c3 k3
  have g3 := PySem.W.mg_of X G a3
  have F4 := fun_mk (st := s_opened_inside) l4 c4 k4
  have g4 := PySem.W.mg_of X G a4
  have F5 := fun_mk (st := s_opened) l5 c5 k5
  have g5 := PySem.W.mg_of X G a5
  have F6 := fun_mk (st := s_law_e_pen) l6 c6 k6
  have g6 := PySem.W.mg_of X G a6
  have F7 := fun_mk (st := s_law_e_take) l7 c7 k7
  have g7 := PySem.W.mg_of X G a7
  have F8 := fun_mk (st := s_law_e_signs) l8 c8 k8
  have g8 := PySem.W.mg_of X G a8
  have F9 := fun_mk (st := s_law_e_form) l9 c9 k9
  have g9 := PySem.W.mg_of X G a9
  have F10 := fun_mk (st := s_law_e_opened) l10 c10 k10
  have g10 := PySem.W.mg_of X G a10
  have F11 := fun_mk (st := s_law_e_size) l11 c11 k11
  have g11 := PySem.W.mg_of X G a11
  have F12 := fun_mk (st := s_law_e_great) l12 c12 k12
  have g12 := PySem.W.mg_of X G a12
  have F13 := fun_mk (st := s_law_e_told_opened) l13 c13 k13
  have g13 := PySem.W.mg_of X G a13
  have F14 := fun_mk (st := s_law_e_opened_right) l14 c14 k14
  have g14 := PySem.W.mg_of X G a14
  have F15 := fun_mk (st := s_law) l15 c15 k15
  have g15 := PySem.W.mg_of X G a15
  have e := hfa.symm.trans g15
  cases e
  refine ⟨PySem.W.fnOf "law" "law" (defArgs s_law) (defBody s_law) (defScope s_law) .none kV15 dc15 pm15 an15 cd15 ct15, fun s v => .of_eq rfl, fun base _ _ => ?_⟩
  have CI_TooMany := okI_TooMany (P := l.prog) (w := w) (base := base) (κ := κ) (fun_mk (st := s_TooMany_init) lI2 cI2 kI2) ⟨⟨_, _, _, _, _, _, _, _, _, _, _, _, _, _, _, xL2, by rfl⟩, xsa2, xsb2, xty2, xkc2⟩ xno2 (PySem.W.mg_of X G aC0) ⟨rd0, rg0⟩ fc0 (PySem.W.mg_of X G aC2) aI2 tI2 (PySem.W.mg_none_of X G z_str)
  have C_parts_of := ok_parts_of (P := l.prog) (w := w) (base := base) (κ := κ) rfl F0 g0 Z E
  have C_pieces_opened := ok_pieces_opened (P := l.prog) (w := w) (base := base) (κ := κ) rfl F1 g1 Z E C_parts_of 12
  have C_put_in_a_row := ok_put_in_a_row (P := l.prog) (w := w) (base := base) (κ := κ) rfl F2 g2 Z E
  have C_laid_out := ok_laid_out (P := l.prog) (w := w) (base := base) (κ := κ) rfl F3 g3 Z E C_put_in_a_row
  have C_opened_inside := ok_opened_inside (P := l.prog) (w := w) (base := base) (κ := κ) rfl F4 g4 Z E C_laid_out 12
  have C_opened := ok_opened (P := l.prog) (w := w) (base := base) (κ := κ) rfl F5 g5 Z E C_pieces_opened C_opened_inside CI_TooMany
  have C_law_e_pen := ok_law_e_pen (P := l.prog) (w := w) (base := base) (κ := κ) rfl F6 g6 Z E
  have C_law_e_take := ok_law_e_take (P := l.prog) (w := w) (base := base) (κ := κ) rfl F7 g7 Z E
  have C_law_e_signs := ok_law_e_signs (P := l.prog) (w := w) (base := base) (κ := κ) rfl F8 g8 Z E C_law_e_take
  have C_law_e_form := ok_law_e_form (P := l.prog) (w := w) (base := base) (κ := κ) rfl F9 g9 Z E C_law_e_take 12
  have C_law_e_opened := ok_law_e_opened (P := l.prog) (w := w) (base := base) (κ := κ) rfl F10 g10 Z E 12
  have C_law_e_size := ok_law_e_size (P := l.prog) (w := w) (base := base) (κ := κ) rfl F11 g11 Z E 12
  have C_law_e_great := ok_law_e_great (P := l.prog) (w := w) (base := base) (κ := κ) rfl F12 g12 Z E C_law_e_form C_law_e_take
  have C_law_e_told_opened := ok_law_e_told_opened (P := l.prog) (w := w) (base := base) (κ := κ) rfl F13 g13 Z E C_opened
  have C_law_e_opened_right := ok_law_e_opened_right (P := l.prog) (w := w) (base := base) (κ := κ) rfl F14 g14 Z E C_law_e_size C_law_e_opened C_law_e_told_opened
  have C_law := fn_law (P := l.prog) (w := w) (base := base) (κ := κ) rfl F15 Z E C_law_e_pen C_law_e_signs C_law_e_great C_law_e_opened_right C_law_e_size
  exact C_law.imp fun vs H Q E q => q κ.at'
end Tk77
end Mid
namespace Mid
open PySem
noncomputable section
variable {s s' : Mst} {Q : Dv → Mst → Prop} {p w c : Nat}
/-- a pen: its list of three, its list of numbers -/
def PenE (p w c : Nat) (s : Mst) : Prop := ∃ (t z : Int) (ns : List Int), s[p]? = some (.lst [.loc w, .int t, .int z]) ∧ s[w]? = some (.lst (ns.map Dv.int)) ∧ p ≠ w ∧ 0 ≤ t ∧ t ≤ (c : Int) ∧ ns.length < 2 ^ 24
theorem PenE.fr (h : PenE p w c s) {X : List Nat} (f : Fr X s s') (hp : p ∉ X) (hw : w ∉ X) : PenE p w c s' := by
  obtain ⟨a, t, ws, h1, h2, h3⟩ := h
  exact ⟨a, t, ws, f.get h1 hp, f.get h2 hw, h3⟩
theorem PenE.fr0 (h : PenE p w c s) (f : Fr [] s s') : PenE p w c s' := h.fr f (by simp) (by simp)
theorem PenE.le {c' : Nat} (h : PenE p w c s) (hc : c ≤ c') : PenE p w c' s := by
  obtain ⟨t, z, ns, h1, h2, h3, h4, h5, h6⟩ := h
  exact ⟨t, z, ns, h1, h2, h3, h4, by omega, h6⟩
theorem PenE.lt (h : PenE p w c s) : p < s.length ∧ w < s.length := by
  obtain ⟨a, t, ws, h1, h2, _⟩ := h
  exact ⟨lt_of h1, lt_of h2⟩
theorem take_ok {many : Nat} (h : PenE p w c s) (hm : 0 < many) (hm2 : many < 1000000) (hc : c < 1000000000)
    (q : ∀ s' r, Fr [p] s s' → PenE p w (c + 1) s' → r < many → Q (nD r) s') : (f_law_e_take [.loc p, nD many] s).to Q := by
  obtain ⟨t, z, ns, h1, h2, hne, ht, ht2, hl⟩ := h
  have lp := lt_of h1
  have lw := lt_of h2
  unfold f_law_e_take
  refine fun_at [some (.loc p), some (nD many), none, none, none, none] rfl rfl ?_
  unfold m_law_e_take nD
  refine seq_k fun K hK => ?_
  have hfin : ∀ (t1 z1 : Int) (s1 : Mst) (x1 x2 x3 : Option Dv), Fr [p] s s1 → s1[p]? = some (.lst [.loc w, .int t1, .int z1]) → 0 ≤ t1 → t1 ≤ (c + 1 : Nat) → K [some (.loc p), some (.int many), x1, x2, x3, none] s1 := by
    intro t1 z1 s1 x1 x2 x3 f1 g1 b1 b2
    refine hK _ _ ?_
    clear hK
    try simp (disch := first | assumption | omega | decide) only [wpA, wpB, wpC, wpD, *]
    have lp1 := lt_of g1
    have e : z1 % (many : Int) = ((z1 % (many : Int)).toNat : Nat) := (Int.toNat_of_nonneg (Int.emod_nonneg _ (by omega))).symm
    rw [e]
    refine q _ _ (f1.put (.inl (by simp))) ⟨t1, z1 / many, ns, look_put g1, ?_, hne, b1, b2, hl⟩ ?_
    · rw [getS_ne hne]; exact f1.get h2 (by simpa using Ne.symm hne)
    · have := Int.emod_lt_of_pos z1 (b := many) (by omega)
      have := Int.emod_nonneg z1 (b := many) (by omega)
      omega
  clear hK q
  by_cases hz : z < (many : Int)
  · refine if_k fun KA KB hA hB => ?_
    try simp (disch := first | assumption | omega | decide) only [wpA, wpB, wpC, wpD, *, -hfin]
    refine hA _ ?_
    clear hA hB
    refine seq_k fun K hK => ?_
    try simp (disch := first | assumption | omega | decide) only [wpA, wpB, wpC, wpD, *, -hfin, -hK]
    refine hK _ _ ?_
    clear hK
    refine seq_k fun K hK => ?_
    try simp (disch := first | assumption | omega | decide) only [wpA, wpB, wpC, wpD, *, -hfin, -hK]
    refine hK _ _ ?_
    clear hK
    refine seq_k fun KK hKK => ?_
    have hin : ∀ c0 : Int, KK [some (Dv.loc p), some (Dv.int ↑many), some (Dv.int t), some (.int c0), none, none] s := by
      intro c0
      refine hKK _ _ ?_
      clear hKK
      refine seq_k fun K hK => ?_
      try simp (disch := first | assumption | omega | decide) only [wpA, wpB, wpC, wpD, *, -hK, -hfin]
      refine hK _ _ ?_
      clear hK
      have lp2 : p < (s.set p (MO.lst [.loc w, .int (t + 1), .int z])).length := by simpa using lp
      have g1 : (s.set p (MO.lst [.loc w, .int (t + 1), .int z]))[p]? = some (.lst [.loc w, .int (t + 1), .int z]) := look_put h1
      have f1 : Fr [p] s (s.set p (MO.lst [.loc w, .int (t + 1), .int z])) := Fr.refl.put (.inl (by simp))
      generalize s.set p (MO.lst [.loc w, .int (t + 1), .int z]) = s1 at lp2 g1 f1 ⊢
      refine seq_k fun K hK => ?_
      try simp (disch := first | assumption | omega | decide) only [wpA, wpB, wpC, wpD, *, -hK, -hfin]
      refine hK _ _ ?_
      clear hK
      have lp3 : p < (s1.set p (MO.lst [.loc w, .int (t + 1), .int c0])).length := by simpa using lp2
      have g2 : (s1.set p (MO.lst [.loc w, .int (t + 1), .int c0]))[p]? = some (.lst [.loc w, .int (t + 1), .int c0]) := look_put g1
      have f2 : Fr [p] s (s1.set p (MO.lst [.loc w, .int (t + 1), .int c0])) := f1.put (.inl (by simp))
      generalize s1.set p (MO.lst [.loc w, .int (t + 1), .int c0]) = s2 at lp3 g2 f2 ⊢
      refine if_k fun KA KB hA hB => ?_
      try simp (disch := first | assumption | omega | decide) only [wpA, wpB, wpC, wpD, *, -hA, -hB, -hfin]
      by_cases h18 : c0 < 1000000000000000000
      · rw [if_pos h18]
        refine hA _ ?_
        clear hA hB
        refine seq_k fun K hK => ?_
        try simp (disch := first | assumption | omega | decide) only [wpA, wpB, wpC, wpD, *, -hK, -hfin]
        generalize hm3 : (c0 % 2147483629 * 48271 + t * 69621 + 101) % 2147483587 = m
        refine hK _ _ ?_
        clear hK
        have b1 : 0 ≤ m := by omega
        have b2 : m < 2147483587 := by omega
        clear hm3
        refine seq_k fun K hK => ?_
        try simp (disch := first | assumption | omega | decide) only [wpA, wpB, wpC, wpD, *, -hK, -hfin]
        generalize hm3 : (m * m + t * 40014 + 7) % 2147483563 = m2
        refine hK _ _ ?_
        clear hK
        have b3 : 0 ≤ m2 := by rw [← hm3]; exact Int.emod_nonneg _ (by decide)
        have b4 : m2 < 2147483563 := by rw [← hm3]; exact Int.emod_lt_of_pos _ (by decide)
        clear hm3
        try simp (disch := first | assumption | omega | decide) only [wpA, wpB, wpC, wpD, *, -hfin]
        exact hfin _ _ _ _ _ _ (f2.put (.inl (by simp))) (look_put g2) (by omega) (by omega)
      · rw [if_neg h18]
        refine hB _ ?_
        try simp (disch := first | assumption | omega | decide) only [wpA, wpB, wpC, wpD, *, -hfin]
        exact hfin _ _ _ _ _ _ f2 g2 (by omega) (by omega)
    clear hKK hfin
    refine if_k fun KA KB hA hB => ?_
    try simp (disch := first | assumption | omega | decide) only [wpA, wpB, wpC, wpD, *, -hin, -hA, -hB]
    by_cases h3 : t < ns.length
    · rw [if_pos h3]
      refine hA _ ?_
      clear hA hB
      obtain ⟨z0, hz0⟩ : ∃ z0, atQ (ns.map Dv.int) t = some (.int z0) := by
        have e : t = (t.toNat : Nat) := (Int.toNat_of_nonneg ht).symm
        rw [e]
        have hl3 : t.toNat < ns.length := by omega
        exact ⟨ns[t.toNat], atQ_nat (by rw [List.getElem?_map, List.getElem?_eq_getElem hl3]; rfl)⟩
      try simp (disch := first | assumption | omega | decide) only [wpA, wpB, wpC, wpD, *]
    · rw [if_neg h3]
      refine hB _ ?_
      clear hA hB
      refine if_k fun KA KB hA hB => ?_
      try simp (disch := first | assumption | omega | decide) only [wpA, wpB, wpC, wpD, *, -hin, -hA, -hB]
      by_cases h4 : (0 : Int) < ns.length
      · rw [if_pos h4]
        refine hA _ ?_
        clear hA hB
        obtain ⟨z0, hz0⟩ : ∃ z0, atQ (ns.map Dv.int) (t * 5 % ns.length) = some (.int z0) := by
          have h5 := Int.emod_nonneg (t * 5) (b := ns.length) (by omega)
          have h6 := Int.emod_lt_of_pos (t * 5) h4
          have e : t * 5 % ns.length = ((t * 5 % ns.length).toNat : Nat) := (Int.toNat_of_nonneg h5).symm
          rw [e]
          have hl3 : (t * 5 % ns.length).toNat < ns.length := by omega
          exact ⟨ns[(t * 5 % ns.length).toNat], atQ_nat (by rw [List.getElem?_map, List.getElem?_eq_getElem hl3]; rfl)⟩
        try simp (disch := first | assumption | omega | decide) only [wpA, wpB, wpC, wpD, *]
      · rw [if_neg h4]
        refine hB _ ?_
        try simp (disch := first | assumption | omega | decide) only [wpA, wpB, wpC, wpD, *]
  · refine if_k fun KA KB hA hB => ?_
    try simp (disch := first | assumption | omega | decide) only [wpA, wpB, wpC, wpD, *, -hfin, -hA, -hB]
    refine hB _ ?_
    try simp (disch := first | assumption | omega | decide) only [wpA, wpB, wpC, wpD, *, -hfin]
    exact hfin t z s _ _ _ .refl h1 ht (by omega)
end
end Mid
namespace Mid
open PySem
noncomputable section
variable {s s' : Mst} {Q : Dv → Mst → Prop} {p w c : Nat}
/-- the signs: told, where they lie -/
structure SgE (s : Mst) (n : Nat) (sg : List Str) : Prop where
  at_ : s[n]? = some (.lst (sg.map Dv.str))
  low : ∀ x ∈ sg, LowS x
  pos : sg ≠ []
  le : sg.length ≤ 3
  nd : sg.Nodup
theorem SgE.fr {n : Nat} {sg : List Str} (h : SgE s n sg) {X : List Nat} (f : Fr X s s') (hn : n ∉ X) : SgE s' n sg := ⟨f.get h.at_ hn, h.low, h.pos, h.le, h.nd⟩
theorem signs_ok (h : PenE p w c s) (hc : c < 100000000)
    (q : ∀ s' n sg, Fr [p] s s' → PenE p w (c + 30) s' → s.length ≤ n → SgE s' n sg → Q (.loc n) s') : (f_law_e_signs [.loc p] s).to Q := by
  unfold f_law_e_signs
  refine fun_at [some (.loc p), none, none, none, none, none, none] rfl rfl ?_
  unfold m_law_e_signs
  refine seq_k fun K hK => ?_
  try simp (disch := first | assumption | omega | decide) only [wpA, wpB, wpC, wpD, *, -hK]
  refine take_ok (many := 8) h (by decide) (by decide) (by omega) fun s1 way f1 h1 hw => ?_
  try simp (disch := first | assumption | omega | decide) only [wpA, wpB, wpC, wpD, *, -hK]
  refine hK _ _ ?_
  clear hK
  refine seq_k fun K hK => ?_
  refine if_k fun KA KB hA hB => ?_
  try simp (disch := first | assumption | omega | decide) only [wpA, wpB, wpC, wpD, *, -hK, -hA, -hB]
  by_cases h4 : (way : Int) < 4
  · rw [if_pos h4]
    refine hA _ ?_
    clear hA hB hK
    try simp (disch := first | assumption | omega | decide) only [wpA, wpB, wpC, wpD, *]
    simp only [List.append_assoc, Nat.zero_add]
    have : way = 0 ∨ way = 1 ∨ way = 2 ∨ way = 3 := by omega
    rcases this with rfl | rfl | rfl | rfl
    · refine toO' (d := .loc (s1.length)) rfl ?_
      refine q _ _ [Str.ofString "a", Str.ofString "b"] (f1.trans .app) ?_ ?_ ⟨?_, by decide, by decide, by decide, by decide⟩
      · exact (h1.fr0 .app).le (by omega)
      · have := f1.1; omega
      · simp [Nat.add_assoc]
    · refine toO' (d := .loc (s1.length + 1)) rfl ?_
      refine q _ _ [Str.ofString "a", Str.ofString "ab", Str.ofString "b"] (f1.trans .app) ?_ ?_ ⟨?_, by decide, by decide, by decide, by decide⟩
      · exact (h1.fr0 .app).le (by omega)
      · have := f1.1; omega
      · simp [Nat.add_assoc]
    · refine toO' (d := .loc (s1.length + 1 + 1)) rfl ?_
      refine q _ _ [Str.ofString "b", Str.ofString "ba", Str.ofString "c"] (f1.trans .app) ?_ ?_ ⟨?_, by decide, by decide, by decide, by decide⟩
      · exact (h1.fr0 .app).le (by omega)
      · have := f1.1; omega
      · simp [Nat.add_assoc]
    · refine toO' (d := .loc (s1.length + 1 + 1 + 1)) rfl ?_
      refine q _ _ [Str.ofString "z", Str.ofString "zz", Str.ofString "zzzzzz"] (f1.trans .app) ?_ ?_ ⟨?_, by decide, by decide, by decide, by decide⟩
      · exact (h1.fr0 .app).le (by omega)
      · have := f1.1; omega
      · simp [Nat.add_assoc]
  · rw [if_neg h4]
    refine hB _ ?_
    clear hA hB
    try simp (disch := first | assumption | omega | decide) only [wpA, wpB, wpC, wpD, *]
    refine hK _ _ ?_
    clear hK
    refine seq_k fun K hK => ?_
    try simp (disch := first | assumption | omega | decide) only [wpA, wpB, wpC, wpD, *, -hK]
    refine hK _ _ ?_
    clear hK
    refine seq_k fun K hK => ?_
    try simp (disch := first | assumption | omega | decide) only [wpA, wpB, wpC, wpD, *, -hK]
    refine hK _ _ ?_
    clear hK
    refine seq_k fun K hK => ?_
    try simp (disch := first | assumption | omega | decide) only [wpA, wpB, wpC, wpD, *, -hK]
    have hw2 : (2 + (way : Int) % 2).toNat ≤ 3 := by omega
    have hw3 : 2 ≤ (2 + (way : Int) % 2).toNat := by omega
    generalize (2 + (way : Int) % 2).toNat = m at hw2 hw3 ⊢
    have hp1 := h1.lt
    refine for_by (fun i σ s2 => ∃ (x4 x5 x6 : Option Dv) (ks : List Str), σ = [some (.loc p), some (.int way), some (.str abcS), some (.loc s1.length), x4, x5, x6] ∧ s2[s1.length]? = some (setD ks) ∧ ks.Nodup ∧ (∀ x ∈ ks, LowS x) ∧ ks.length ≤ i ∧ (0 < i → ks ≠ []) ∧ PenE p w (c + 1 + 7 * i) s2 ∧ Fr [p] s s2)
      ⟨none, none, none, [], rfl, by simp [setD], by simp, by simp, by simp, by simp, h1.fr0 .app, f1.trans .app⟩ (fun _ _ _ _ => trivial) ?_ ?_
    · rintro i x σ s2 hx ⟨x4, x5, x6, ks, rfl, hd, hnd, hlow, hl, h0, h2, f2⟩
      have hi : i < m := by have := (List.getElem?_eq_some_iff.mp hx).1; simpa [rngI_len] using this
      simp only [w_gN, setS, set0]
      refine seq_k fun K hK => ?_
      try simp (disch := first | assumption | omega | decide) only [wpA, wpB, wpC, wpD, *, -hK, -h0]
      refine take_ok (many := 6) h2 (by decide) (by decide) (by omega) fun s3 k f3 h3 hk => ?_
      try simp (disch := first | assumption | omega | decide) only [wpA, wpB, wpC, wpD, *, -hK]
      have e : (1 + (k : Int)).toNat = k + 1 := by omega
      rw [e]
      have hd3 : s3[s1.length]? = some (setD ks) := f3.get hd (by simp; omega)
      refine lc_by (fun i' ds s4 => Fr [p] s3 s4 ∧ PenE p w (c + 1 + 7 * i + 1 + i') s4 ∧ ∃ ys : List Nat, ds = (ys.map chD).map Dv.str ∧ ys.length = i' ∧ ∀ y ∈ ys, y < 26) ⟨.refl, h3, [], rfl, rfl, by simp⟩ (fun _ _ _ _ => trivial) ?_ ?_
      · rintro i' x ds s4 hx' ⟨f4, h4', ys, rfl, hl', h5⟩
        have hi' : i' < k + 1 := by have := (List.getElem?_eq_some_iff.mp hx').1; simpa [rngI_len] using this
        try simp (disch := first | assumption | omega | decide) only [wpA, wpB, wpC, wpD, *, -hK]
        refine take_ok (many := 26) h4' (by decide) (by decide) (by omega) fun s5 r f5 h6 hr => ?_
        rw [abc_at hr, to_ok]
        refine ⟨f4.trans f5, h6.le (by omega), ys ++ [r], by simp, by simp [hl'], ?_⟩
        intro y hy
        rcases List.mem_append.mp hy with hy | hy
        · exact h5 y hy
        · simp at hy; rw [hy]; exact hr
      · rintro ds s4 ⟨f4, h4', ys, rfl, hl', h5⟩
        rw [rngI_len] at hl' h4'
        refine hK _ _ ?_
        clear hK
        have hd4 : s4[s1.length]? = some (setD ks) := f4.get hd3 (by have := lt_of hd3; simp; omega)
        try simp (disch := first | assumption | omega | decide) only [wpA, wpB, wpC, wpD, *, -h0]
        have g4 : (s4 ++ [MO.lst ((ys.map chD).map Dv.str)])[s4.length]? = some (.lst ((ys.map chD).map Dv.str)) := by simp
        rw [tJoin_chs g4 (by omega), to_ok]
        have hd5 : (s4 ++ [MO.lst ((ys.map chD).map Dv.str)])[s1.length]? = some (setD ks) := look_app hd4
        rw [set_put hd5 (by omega), to_ok]
        refine ⟨_, _, _, _, rfl, look_put hd5, ?_, ?_, ?_, ?_, ?_, ?_⟩
        · by_cases hx : (Str.join (Str.ofString "") (ys.map chD)) ∈ ks
          · rw [if_pos hx]; exact hnd
          · rw [if_neg hx]
            rw [List.nodup_append]
            exact ⟨hnd, by simp, fun a ha b hb e => hx (by simp at hb; rw [← hb, ← e]; exact ha)⟩
        · intro x hx
          have hj : LowS (Str.join (Str.ofString "") (ys.map chD)) := join_low (by omega) (by omega) h5
          split at hx
          · exact hlow x hx
          · rcases List.mem_append.mp hx with hx | hx
            · exact hlow x hx
            · simp at hx; rw [hx]; exact hj
        · split
          · omega
          · simp; omega
        · intro _
          split
          · rename_i hx; intro z; rw [z] at hx; simp at hx
          · simp [Nat.add_assoc]
        · refine ((h4'.fr0 .app).fr (X := [s1.length]) (Fr.refl.put (.inl (by simp))) (by simp; omega) (by simp; omega)).le (by omega)
        · exact (((f2.trans f3).trans f4).trans .app).trans2 (Fr.refl.put (X := [s1.length]) (.inl (by simp))) (by intro n hn; simp at hn; subst hn; right; exact f1.1)
    · rintro σ s2 ⟨x4, x5, x6, ks, rfl, hd, hnd, hlow, hl, h0, h2, f2⟩
      rw [rngI_len] at hl h0 h2
      refine hK _ _ ?_
      clear hK
      try simp (disch := first | assumption | omega | decide) only [wpA, wpB, wpC, wpD, *, -h0]
      rw [sorted_set hd (by omega) (h0 (by omega)), to_ok]
      have hp := srtS_perm ks
      refine q _ _ (srtS ks) (f2.trans .app) ((h2.fr0 .app).le (by omega)) f2.1 ⟨by simp, ?_, ?_, ?_, ?_⟩
      · intro x hx; exact hlow x (hp.mem_iff.mp hx)
      · intro z; rw [z] at hp; exact h0 (by omega) hp.nil_eq.symm
      · rw [hp.length_eq]; omega
      · exact hp.nodup_iff.mpr hnd
end
end Mid
namespace Mid
open PySem
noncomputable section
variable {s s' : Mst} {Q : Dv → Mst → Prop} {p w c : Nat}
/-! ### comprehensions of values -/
theorem lc_val {α : Type} {src : List (Nat × List Dv)} {g : MG} {t : MT} {e : ME} {σ : Men} {Q : List Dv → Mst → Prop} (xs : List α) (enc : α → Dv) (f : α → Dv) (hst : ∀ s', Fr [] s s' → Mit.stays src s')
    (step : ∀ a ∈ xs, ∀ s', Fr [] s s' → (g (enc a) σ s').to fun σ1 s1 => (t σ1 s1).to fun c s2 => if c = true then (e σ1 s2).to fun d s3 => d = f a ∧ Fr [] s' s3 else False)
    (fin : ∀ s', Fr [] s s' → Q (xs.map f) s') : (lcF src g t e σ (xs.map enc) s).to Q := by
  refine lc_by (fun i ds s' => Fr [] s s' ∧ ds = (xs.take i).map f) ⟨.refl, by simp⟩ (fun _ _ _ h => hst _ h.1) ?_ ?_
  · rintro i x ds s' hx ⟨hf, rfl⟩
    rw [List.getElem?_map] at hx
    cases q : xs[i]? with
    | none => rw [q] at hx; cases hx
    | some a =>
      rw [q] at hx; cases hx
      refine to_mono (step a (List.mem_of_getElem? q) s' hf) fun σ1 s1 h1 => to_mono h1 fun c s2 h2 => ?_
      cases c with
      | false => exact h2.elim
      | true =>
        simp only [if_true] at h2 ⊢
        refine to_mono h2 fun d s3 h3 => ⟨hf.trans h3.2, ?_⟩
        rw [h3.1]
        have : xs.take (i + 1) = xs.take i ++ [a] := by rw [List.take_succ, q]; rfl
        rw [this]; simp
  · rintro ds s' ⟨hf, rfl⟩
    rw [List.length_map, List.take_length]
    exact fin s' hf
theorem bSum_nats {n : Nat} {ns : List Nat} (h : s[n]? = some (.lst (ns.map fun (k : Nat) => Dv.int (k : Int)))) : bSum [.loc n] s = .ok (.int (ns.sum : Nat)) s := by
  have e : (ns.map fun (k : Nat) => Dv.int (k : Int)) = (ns.map fun (k : Nat) => (k : Int)).map Dv.int := by rw [List.map_map]; rfl
  rw [e] at h
  unfold bSum f1
  simp only [lstQ_loc h, Option.bind_some, intsQ_map]
  have : ((ns.map fun (k : Nat) => (k : Int))).sum = ((ns.sum : Nat) : Int) := by
    clear h e
    induction ns with
    | nil => rfl
    | cons a r ih => rw [List.map_cons, List.sum_cons, List.sum_cons, ih]; omega
  rw [this]
/-! ### forms -/
inductive Fo where
  | sign (x : Str) | row (l : List Fo) | pick (l : List Fo) | times (p : Fo) (lo : Nat) (hi : Option Nat)
def hiD : Option Nat → Dv
  | none => .non
  | some h => .int (h : Int)
mutual
def foD : Fo → Dv
  | .sign x => .tup [.str (Str.ofString "sign"), .str x]
  | .row l => .tup [.str (Str.ofString "row"), .tup (foDs l)]
  | .pick l => .tup [.str (Str.ofString "pick"), .tup (foDs l)]
  | .times p lo hi => .tup [.str (Str.ofString "times"), foD p, .int (lo : Int), hiD hi]
def foDs : List Fo → List Dv
  | [] => []
  | f :: r => foD f :: foDs r
end
theorem foDs_map : ∀ l : List Fo, foDs l = l.map foD
  | [] => by simp only [foDs, List.map_nil]
  | f :: r => by simp only [foDs, List.map_cons, foDs_map r]
mutual
def Fo.dep : Fo → Nat
  | .sign _ => 1
  | .row l => 1 + Fo.deps l
  | .pick l => 1 + Fo.deps l
  | .times p _ _ => 1 + p.dep
def Fo.deps : List Fo → Nat
  | [] => 0
  | f :: r => max f.dep (Fo.deps r)
end
theorem Fo.dep_le : ∀ {l : List Fo} {f : Fo}, f ∈ l → f.dep ≤ Fo.deps l
  | g :: r, f, h => by
    rcases List.mem_cons.mp h with rfl | h
    · simp only [Fo.deps]; omega
    · have := Fo.dep_le h; simp only [Fo.deps]; omega
def isPl (lo : Nat) (hi : Option Nat) : Bool := decide ((lo, hi) = (0, some 1) ∨ (lo, hi) = (0, none) ∨ (lo, hi) = (1, none))
def b2n (p : Prop) [Decidable p] : Nat := if p then 1 else 0
mutual
/-- how many pieces it has when it is opened -/
def Fo.sz : Fo → Nat
  | .sign _ => 1
  | .row l => 1 + Fo.szs l
  | .pick l => 1 + Fo.szs l
  | .times p lo hi => if isPl lo hi = true then 1 + p.sz else match hi with
    | none => 2 + lo * p.sz
    | some h => lo * p.sz + (if h - lo = 0 then 0 else (h - lo) * (p.sz + 2) - 1) + b2n (lo + b2n (0 < h - lo) > 1)
def Fo.szs : List Fo → Nat
  | [] => 0
  | f :: r => f.sz + Fo.szs r
end
theorem Fo.szs_sum : ∀ l : List Fo, Fo.szs l = (l.map Fo.sz).sum
  | [] => by simp only [Fo.szs, List.map_nil, List.sum_nil]
  | f :: r => by simp only [Fo.szs, List.map_cons, List.sum_cons, Fo.szs_sum r]
theorem Fo.sz_le : ∀ {l : List Fo} {f : Fo}, f ∈ l → f.sz ≤ Fo.szs l
  | g :: r, f, h => by
    rcases List.mem_cons.mp h with rfl | h
    · simp only [Fo.szs]; omega
    · have := Fo.sz_le h; simp only [Fo.szs]; omega
def oks (lo : Nat) (hi : Option Nat) : Prop := lo ≤ 12 ∧ ∀ h, hi = some h → 1 ≤ h ∧ lo ≤ h ∧ h ≤ 12
mutual
def Fo.ok : Fo → Prop
  | .sign x => LowS x
  | .row l => Fo.oksL l
  | .pick l => Fo.oksL l
  | .times p lo hi => p.ok ∧ oks lo hi
def Fo.oksL : List Fo → Prop
  | [] => True
  | f :: r => f.ok ∧ Fo.oksL r
end
theorem Fo.oksL_iff : ∀ {l : List Fo}, Fo.oksL l ↔ ∀ f ∈ l, f.ok
  | [] => by simp [Fo.oksL]
  | f :: r => by simp [Fo.oksL, Fo.oksL_iff (l := r)]
mutual
theorem Fo.sz_pos : ∀ f : Fo, f.ok → 1 ≤ f.sz
  | .sign _, _ => by simp only [Fo.sz]; omega
  | .row _, _ => by simp only [Fo.sz]; omega
  | .pick _, _ => by simp only [Fo.sz]; omega
  | .times p lo hi, h => by
    simp only [Fo.ok] at h
    have ih := Fo.sz_pos p h.1
    simp only [Fo.sz]
    split
    · omega
    · cases hi with
      | none => simp only; omega
      | some h' =>
        have := h.2.2 h' rfl
        simp only
        by_cases z : lo = 0
        · subst z
          rw [if_neg (by omega)]
          have : 1 * (p.sz + 2) ≤ (h' - 0) * (p.sz + 2) := Nat.mul_le_mul_right _ (by omega)
          omega
        · have : 1 * p.sz ≤ lo * p.sz := Nat.mul_le_mul_right _ (by omega)
          omega
theorem Fo.szs_len : ∀ l : List Fo, Fo.oksL l → l.length ≤ Fo.szs l
  | [], _ => by simp
  | f :: r, h => by
    simp only [Fo.oksL] at h
    have := Fo.sz_pos f h.1
    have := Fo.szs_len r h.2
    simp only [Fo.szs, List.length_cons]; omega
end
def Fo.parts : Fo → List Fo
  | .sign _ => []
  | .row l => l
  | .pick l => l
  | .times p _ _ => [p]
theorem parts_ok (f : Fo) (q : Q (.tup (f.parts.map foD)) s) : (f_parts_of [foD f] s).to Q := by
  unfold f_parts_of
  refine fun_at [some (foD f)] rfl rfl ?_
  unfold m_parts_of
  cases f with
  | sign x => simp only [foD]; try simp (disch := first | assumption | omega | decide) only [wpA, wpB, wpC, wpD, *]; exact q
  | row l => simp only [foD, foDs_map]; try simp (disch := first | assumption | omega | decide) only [wpA, wpB, wpC, wpD, *]; exact q
  | pick l => simp only [foD, foDs_map]; try simp (disch := first | assumption | omega | decide) only [wpA, wpB, wpC, wpD, *]; exact q
  | times p lo hi => simp only [foD]; try simp (disch := first | assumption | omega | decide) only [wpA, wpB, wpC, wpD, *]; exact q
def plD : List Dv := [.tup [.int 0, .int 1], .tup [.int 0, .non], .tup [.int 1, .non]]
end
end Mid
namespace Mid
open PySem
noncomputable section
variable {s s' : Mst} {Q : Dv → Mst → Prop} {p w c : Nat}
def hiP : Option Nat → PyData
  | none => .none
  | some h => .int (h : Int)
theorem dat_pair {lo : Nat} {hi : Option Nat} {n : Nat} : dat s (n + 2) (.tup [.int (lo : Int), hiD hi]) = some (.tuple [.int lo, hiP hi]) := by
  cases hi <;> simp [dat, datA, hiD, hiP]
theorem plD_dat {n : Nat} : datA (dat s (n + 2)) plD = some [.tuple [.int 0, .int 1], .tuple [.int 0, .none], .tuple [.int 1, .none]] := by
  simp [plD, dat, datA]
theorem pl_any {lo : Nat} {hi : Option Nat} : ([PyData.tuple [.int 0, .int 1], .tuple [.int 0, .none], .tuple [.int 1, .none]].any fun z => PyData.eqv z (.tuple [.int lo, hiP hi])) = isPl lo hi := by
  cases hi with
  | none =>
    simp only [List.any_cons, List.any_nil, hiP, PyData.eqv, PyData.eqvAll, isPl]
    rcases lo with _ | _ | lo
    · decide
    · decide
    · have h0 : ((0 : Int) == ((lo + 1 + 1 : Nat) : Int)) = false := by simp; omega
      have h1 : ((1 : Int) == ((lo + 1 + 1 : Nat) : Int)) = false := by simp; omega
      rw [h0, h1]; simp
  | some h =>
    simp only [List.any_cons, List.any_nil, hiP, PyData.eqv, PyData.eqvAll, isPl]
    by_cases e : lo = 0 ∧ h = 1
    · obtain ⟨rfl, rfl⟩ := e; decide
    · have : ((0 : Int) == (lo : Int) && ((1 : Int) == (h : Int) && true)) = false := by
        rw [Bool.eq_false_iff]; intro z; simp at z; omega
      rw [this]; simp; omega
theorem shaped_pair {lo : Nat} {hi : Option Nat} : SeqAt.shaped (.tuple [.int lo, hiP hi]) = true := by
  cases hi <;> simp [SeqAt.shaped, hiP, PyData.canLay0, PyData.canLayAll0, PyData.depth, PyData.depthAll]
theorem shaped_pl : SeqAt.shaped (.list [.tuple [.int 0, .int 1], .tuple [.int 0, .none], .tuple [.int 1, .none]]) = true := by
  simp [SeqAt.shaped, PyData.canLay0, PyData.canLayAll0, PyData.depth, PyData.depthAll]
theorem in_pl {lo : Nat} {hi : Option Nat} : oIn (.tup [.int lo, hiD hi]) (.clst plD) s = .ok (.bl (isPl lo hi)) s := by
  unfold oIn inQ
  simp only [dat_pair, plD_dat, shaped_pair, shaped_pl, and_self, if_true, pl_any]
  rfl
theorem in_plL {lo : Nat} {hi : Option Nat} {n : Nat} (h : s[n]? = some (.lst plD)) : oIn (.tup [.int lo, hiD hi]) (.loc n) s = .ok (.bl (isPl lo hi)) s := by
  unfold oIn inQ
  simp only [h, dat_pair, plD_dat, shaped_pair, shaped_pl, and_self, if_true, pl_any]
  rfl
theorem pl_two {lo : Nat} (h : ¬ isPl lo none = true) : 2 ≤ lo := by
  rcases lo with _ | _ | lo
  · exact absurd rfl h
  · exact absurd rfl h
  · omega
theorem Fo.parts_bd (f : Fo) (hok : f.ok) : ∀ g ∈ f.parts, g.dep < f.dep ∧ g.ok ∧ g.sz ≤ f.sz := by
  cases f with
  | sign x => simp [Fo.parts]
  | row l => intro g (hg : g ∈ l); simp only [Fo.dep, Fo.ok, Fo.sz] at *; have := Fo.dep_le hg; have := Fo.sz_le hg; exact ⟨by omega, Fo.oksL_iff.mp hok g hg, by omega⟩
  | pick l => intro g (hg : g ∈ l); simp only [Fo.dep, Fo.ok, Fo.sz] at *; have := Fo.dep_le hg; have := Fo.sz_le hg; exact ⟨by omega, Fo.oksL_iff.mp hok g hg, by omega⟩
  | times p lo hi =>
    intro g hg
    simp only [Fo.parts, List.mem_singleton] at hg
    subst hg
    simp only [Fo.ok] at hok
    refine ⟨by simp only [Fo.dep]; omega, hok.1, ?_⟩
    have := Fo.sz_pos g hok.1
    simp only [Fo.sz]
    split
    · omega
    · cases hi with
      | none =>
        rename_i hpl
        have h2 := pl_two hpl
        have : 1 * g.sz ≤ lo * g.sz := Nat.mul_le_mul_right _ (by omega)
        simp only; omega
      | some h' =>
        have := hok.2.2 h' rfl
        simp only
        by_cases z : lo = 0
        · subst z
          rw [if_neg (by omega)]
          have : 1 * (g.sz + 2) ≤ (h' - 0) * (g.sz + 2) := Nat.mul_le_mul_right _ (by omega)
          omega
        · have : 1 * g.sz ≤ lo * g.sz := Nat.mul_le_mul_right _ (by omega)
          omega
theorem Fo.parts_len (f : Fo) (hok : f.ok) : f.parts.length ≤ f.sz := by
  cases f with
  | sign x => simp [Fo.parts]
  | row l => simp only [Fo.parts, Fo.ok, Fo.sz] at hok ⊢; have := Fo.szs_len l hok; omega
  | pick l => simp only [Fo.parts, Fo.ok, Fo.sz] at hok ⊢; have := Fo.szs_len l hok; omega
  | times p lo hi => have := Fo.sz_pos _ hok; simp only [Fo.parts, List.length_singleton]; exact this
theorem cast_b2n (p : Prop) [Decidable p] : (if decide p = true then (1 : Int) else 0) = (b2n p : Nat) := by
  unfold b2n; by_cases h : p <;> simp [h]
theorem pieces_opened_ok : ∀ (n : Nat) (f : Fo), f.dep ≤ n → f.ok → f.sz < 1000000 → ∀ (s : Mst) (Q : Dv → Mst → Prop), (∀ s', Fr [] s s' → Q (.int (f.sz : Nat)) s') → (f_pieces_opened n [foD f] s).to Q
  | 0, f, hd, _, _, s, Q, q => by cases f <;> simp only [Fo.dep] at hd <;> omega
  | n + 1, f, hd, hok, hz, s, Q, q => by
    unfold f_pieces_opened
    refine fun_at [some (foD f), none, none, none, none, none, none] rfl rfl ?_
    unfold m_pieces_opened
    have hpd := Fo.parts_bd f hok
    have hlen := Fo.parts_len f hok
    refine seq_k fun K hK => ?_
    try simp (disch := first | assumption | omega | decide) only [wpA, wpB, wpC, wpD, *, -hK, -q, -hpd]
    refine parts_ok f ?_
    try simp (disch := first | assumption | omega | decide) only [wpA, wpB, wpC, wpD, *, -hK, -q, -hpd]
    refine lc_val f.parts foD (fun g => .int (g.sz : Nat)) (fun _ _ => trivial) ?_ ?_
    · intro g hg s1 f1
      try simp (disch := first | assumption | omega | decide) only [wpA, wpB, wpC, wpD, *, -hK, -q, -hpd]
      have := hpd g hg
      exact pieces_opened_ok n g (by omega) this.2.1 (by omega) s1 _ fun s2 f2 => ⟨rfl, f2⟩
    · intro s1 f1
      refine hK _ _ ?_
      clear hK
      have h0 : (s1 ++ [MO.lst (f.parts.map fun g => Dv.int (g.sz : Nat))])[s1.length]? = some (.lst (f.parts.map fun g => Dv.int (g.sz : Nat))) := by simp
      have f2 : Fr [] s (s1 ++ [MO.lst (f.parts.map fun g => Dv.int (g.sz : Nat))]) := f1.trans .app
      generalize s1 ++ [MO.lst (f.parts.map fun g => Dv.int (g.sz : Nat))] = s2 at h0 f2 ⊢
      generalize s1.length = k at h0 ⊢
      have hsum : bSum [.loc k] s2 = .ok (.int ((f.parts.map Fo.sz).sum : Nat)) s2 := bSum_nats (by rw [h0, List.map_map]; rfl)
      cases f with
      | sign x =>
        simp only [foD] at *
        refine seq_k fun K hK => ?_
        refine if_k fun KA KB hA hB => ?_
        try simp (disch := first | assumption | omega | decide) only [wpA, wpB, wpC, wpD, *, -hK, -hA, -hB, -q]
        refine hA _ ?_
        clear hA hB hK
        try simp (disch := first | assumption | omega | decide) only [wpA, wpB, wpC, wpD, *, -q]
        exact q s2 f2
      | row l =>
        simp only [foD] at *
        refine seq_k fun K hK => ?_
        refine if_k fun KA KB hA hB => ?_
        try simp (disch := first | assumption | omega | decide) only [wpA, wpB, wpC, wpD, *, -hK, -hA, -hB, -q]
        refine hA _ ?_
        clear hA hB hK
        try simp (disch := first | assumption | omega | decide) only [wpA, wpB, wpC, wpD, *, -q]
        have e : (1 : Int) + ((((Fo.row l).parts.map Fo.sz).sum : Nat) : Int) = ((Fo.row l).sz : Nat) := by simp only [Fo.sz, Fo.parts, Fo.szs_sum]; omega
        rw [e]
        exact q s2 f2
      | pick l =>
        simp only [foD] at *
        refine seq_k fun K hK => ?_
        refine if_k fun KA KB hA hB => ?_
        try simp (disch := first | assumption | omega | decide) only [wpA, wpB, wpC, wpD, *, -hK, -hA, -hB, -q]
        refine hA _ ?_
        clear hA hB hK
        try simp (disch := first | assumption | omega | decide) only [wpA, wpB, wpC, wpD, *, -q]
        have e : (1 : Int) + ((((Fo.pick l).parts.map Fo.sz).sum : Nat) : Int) = ((Fo.pick l).sz : Nat) := by simp only [Fo.sz, Fo.parts, Fo.szs_sum]; omega
        rw [e]
        exact q s2 f2
      | times g lo hi =>
        simp only [foD] at *
        have hin : oIn (.tup [.int lo, hiD hi]) (.clst [.tup [.int 0, .int 1], .tup [.int 0, .non], .tup [.int 1, .non]]) s2 = .ok (.bl (isPl lo hi)) s2 := in_pl
        have hg := hpd g (by simp [Fo.parts])
        have hok' : g.ok ∧ oks lo hi := hok
        have ho := hok'.2
        refine seq_k fun K hK => ?_
        refine if_k fun KA KB hA hB => ?_
        try simp (disch := first | assumption | omega | decide) only [wpA, wpB, wpC, wpD, *, -hK, -hA, -hB, -q, -hpd]
        by_cases hpl : isPl lo hi = true
        · rw [if_pos hpl]
          refine hA _ ?_
          clear hA hB hK
          try simp (disch := first | assumption | omega | decide) only [wpA, wpB, wpC, wpD, *, -q, -hpd]
          have e : (1 : Int) + ((((Fo.times g lo hi).parts.map Fo.sz).sum : Nat) : Int) = ((Fo.times g lo hi).sz : Nat) := by simp only [Fo.sz, hpl, if_true, Fo.parts, List.map_cons, List.map_nil, List.sum_cons, List.sum_nil]; omega
          rw [e]
          exact q s2 f2
        · rw [if_neg hpl]
          refine hB _ ?_
          clear hA hB
          try simp (disch := first | assumption | omega | decide) only [wpA, wpB, wpC, wpD, *, -q, -hpd, -hK]
          refine hK _ _ ?_
          clear hK hsum
          have h0' : s2[k]? = some (.lst [.int (g.sz : Nat)]) := h0
          refine seq_k fun K hK => ?_
          try simp (disch := first | assumption | omega | decide) only [wpA, wpB, wpC, wpD, *, -hK, -q, -hpd, -h0]
          refine hK _ _ ?_
          clear hK
          refine seq_k fun K hK => ?_
          try simp (disch := first | assumption | omega | decide) only [wpA, wpB, wpC, wpD, *, -hK, -q, -hpd, -h0]
          refine hK _ _ ?_
          clear hK h0 hpd hin
          cases hi with
          | none =>
            have e : (2 : Int) + lo * (g.sz : Nat) = ((Fo.times g lo none).sz : Nat) := by
              simp only [Fo.sz, hpl]; rw [if_neg (by simp)]; simp
            simp only [hiD]
            refine seq_k fun K hK => ?_
            refine if_k fun KA KB hA hB => ?_
            have := ho.1
            try simp (disch := first | assumption | omega | decide) only [wpA, wpB, wpC, wpD, *, -hK, -hA, -hB, -q]
            refine hA _ ?_
            clear hA hB hK
            try simp (disch := first | assumption | omega | decide) only [wpA, wpB, wpC, wpD, *, -q]
            exact q s2 f2
          | some h =>
            simp only [hiD]
            have ho2 := ho.2 h rfl
            have ho1 := ho.1
            refine seq_k fun K hK => ?_
            refine if_k fun KA KB hA hB => ?_
            try simp (disch := first | assumption | omega | decide) only [wpA, wpB, wpC, wpD, *, -hK, -hA, -hB, -q]
            refine hB _ ?_
            clear hA hB
            try simp (disch := first | assumption | omega | decide) only [wpA, wpB, wpC, wpD, *, -q, -hK]
            refine hK _ _ ?_
            clear hK
            have em : (h : Int) - (lo : Int) = ((h - lo : Nat) : Int) := by omega
            refine seq_k fun K hK => ?_
            try simp (disch := first | assumption | omega | decide) only [wpA, wpB, wpC, wpD, *, -q, -hK]
            refine hK _ _ ?_
            clear hK
            have hm : h - lo ≤ 12 := by omega
            generalize hmm : h - lo = m at hm
            refine seq_k fun K hK => ?_
            try simp (disch := first | assumption | omega | decide) only [wpA, wpB, wpC, wpD, *, -q, -hK, -hmm]
            have esz : (Fo.times g lo (some h)).sz = lo * g.sz + (if m = 0 then 0 else m * (g.sz + 2) - 1) + b2n (lo + b2n (0 < m) > 1) := by
              simp only [Fo.sz]; rw [if_neg hpl, hmm]
            have epos : m ≠ 0 → 1 ≤ m * (g.sz + 2) := fun z => Nat.mul_pos (by omega) (by omega)
            have ecast : ((m * (g.sz + 2) : Nat) : Int) = (m : Int) * ((g.sz : Int) + 2) := by simp
            have elo : ((lo * g.sz : Nat) : Int) = (lo : Int) * (g.sz : Int) := by simp
            have hq := q s2 f2
            rw [esz] at hq
            clear q esz
            by_cases hm0 : m = 0
            · rw [if_pos (by omega)]
              refine hK _ _ ?_
              clear hK
              try simp (disch := first | assumption | omega | decide) only [wpA, wpB, wpC, wpD, *, -hq, -epos]
              refine Eq.mp (congrArg (fun z => Q (.int z) s2) ?_) hq
              rw [if_pos hm0]
              unfold b2n
              repeat' split
              all_goals omega
            · rw [if_neg (by omega)]
              refine hK _ _ ?_
              clear hK
              try simp (disch := first | assumption | omega | decide) only [wpA, wpB, wpC, wpD, *, -hq, -epos]
              refine Eq.mp (congrArg (fun z => Q (.int z) s2) ?_) hq
              rw [if_neg hm0]
              have := epos hm0
              unfold b2n
              repeat' split
              all_goals omega
end
end Mid
namespace Mid
open PySem
noncomputable section
variable {s s' : Mst} {Q : Dv → Mst → Prop} {p w c : Nat}
/-- the law's own tail of optional ones -/
def tlN (z : Nat) : Nat → Nat
  | 0 => 0
  | k + 1 => 1 + z + tlN z k + b2n (0 < tlN z k)
theorem tlN_eq (z : Nat) : ∀ k, tlN z k = if k = 0 then 0 else k * (z + 2) - 1
  | 0 => rfl
  | k + 1 => by
    have ih := tlN_eq z k
    simp only [tlN, ih]
    by_cases h : k = 0
    · subst h; simp [b2n]; omega
    · have h1 : 1 * (z + 2) ≤ k * (z + 2) := Nat.mul_le_mul_right _ (by omega)
      have h2 : (k + 1) * (z + 2) = k * (z + 2) + (z + 2) := Nat.succ_mul _ _
      rw [if_neg h, if_neg (by omega), h2]
      unfold b2n
      rw [if_pos (by omega)]
      omega
theorem size_ok : ∀ (n : Nat) (f : Fo), f.dep ≤ n → f.ok → f.sz < 1000000 → ∀ (s : Mst) (Q : Dv → Mst → Prop), (∀ s', Fr [] s s' → Q (.int (f.sz : Nat)) s') → (f_law_e_size n [foD f] s).to Q
  | 0, f, hd, _, _, s, Q, q => by cases f <;> simp only [Fo.dep] at hd <;> omega
  | n + 1, f, hd, hok, hz, s, Q, q => by
    unfold f_law_e_size
    refine fun_at [some (foD f), none, none, none, none, none, none] rfl rfl ?_
    unfold m_law_e_size
    have hpd := Fo.parts_bd f hok
    have hlen := Fo.parts_len f hok
    have many : ∀ (l : List Fo), f.parts = l → f.sz = 1 + (l.map Fo.sz).sum → (lcF [] (gN 6) mtYes (mCall (noE (f_law_e_size n)) [mVar 6]) [some (foD f), none, none, none, none, none, none] (List.map foD l) s).to fun ds s2 => l.length < 2 ^ 24 ∧ (bSum [.loc s2.length] (s2 ++ [.lst ds])).to fun y s3 => ((oAdd (.int 1) y s3).to Q) := by
      intro l el ez
      refine lc_val l foD (fun g => .int (g.sz : Nat)) (fun _ _ => trivial) ?_ ?_
      · intro g hg s1 f1
        try simp (disch := first | assumption | omega | decide) only [wpA, wpB, wpC, wpD, *, -q, -hpd]
        have := hpd g (by rw [el]; exact hg)
        exact size_ok n g (by omega) this.2.1 (by omega) s1 _ fun s2 f2 => ⟨rfl, f2⟩
      · intro s1 f1
        rw [el] at hlen
        refine ⟨by omega, ?_⟩
        have hsum : bSum [.loc s1.length] (s1 ++ [MO.lst (l.map fun g => Dv.int (g.sz : Nat))]) = .ok (.int ((l.map Fo.sz).sum : Nat)) (s1 ++ [MO.lst (l.map fun g => Dv.int (g.sz : Nat))]) := bSum_nats (by simp)
        try simp (disch := first | assumption | omega | decide) only [wpA, wpB, wpC, wpD, *, -q]
        refine Eq.mp (congrArg (fun z => Q (.int z) _) ?_) (q _ (f1.trans .app))
        omega
    cases f with
    | sign x =>
      simp only [foD] at *
      refine seq_k fun K hK => ?_
      refine if_k fun KA KB hA hB => ?_
      try simp (disch := first | assumption | omega | decide) only [wpA, wpB, wpC, wpD, *, -hK, -hA, -hB, -q, -hpd, -many]
      refine hA _ ?_
      clear hA hB hK
      try simp (disch := first | assumption | omega | decide) only [wpA, wpB, wpC, wpD, *, -q, -hpd, -many]
      exact q s .refl
    | row l =>
      simp only [foD, foDs_map] at *
      refine seq_k fun K hK => ?_
      refine if_k fun KA KB hA hB => ?_
      try simp (disch := first | assumption | omega | decide) only [wpA, wpB, wpC, wpD, *, -hK, -hA, -hB, -q, -hpd, -many]
      refine hB _ ?_
      clear hA hB
      try simp (disch := first | assumption | omega | decide) only [wpA, wpB, wpC, wpD, *, -hK, -q, -hpd, -many]
      refine hK _ _ ?_
      clear hK
      refine seq_k fun K hK => ?_
      refine if_k fun KA KB hA hB => ?_
      try simp (disch := first | assumption | omega | decide) only [wpA, wpB, wpC, wpD, *, -hK, -hA, -hB, -q, -hpd, -many]
      refine hA _ ?_
      clear hA hB hK
      try simp (disch := first | assumption | omega | decide) only [wpA, wpB, wpC, wpD, *, -q, -hpd, -many]
      exact many l rfl (by simp only [Fo.sz, Fo.szs_sum])
    | pick l =>
      simp only [foD, foDs_map] at *
      refine seq_k fun K hK => ?_
      refine if_k fun KA KB hA hB => ?_
      try simp (disch := first | assumption | omega | decide) only [wpA, wpB, wpC, wpD, *, -hK, -hA, -hB, -q, -hpd, -many]
      refine hB _ ?_
      clear hA hB
      try simp (disch := first | assumption | omega | decide) only [wpA, wpB, wpC, wpD, *, -hK, -q, -hpd, -many]
      refine hK _ _ ?_
      clear hK
      refine seq_k fun K hK => ?_
      refine if_k fun KA KB hA hB => ?_
      try simp (disch := first | assumption | omega | decide) only [wpA, wpB, wpC, wpD, *, -hK, -hA, -hB, -q, -hpd, -many]
      refine hA _ ?_
      clear hA hB hK
      try simp (disch := first | assumption | omega | decide) only [wpA, wpB, wpC, wpD, *, -q, -hpd, -many]
      exact many l rfl (by simp only [Fo.sz, Fo.szs_sum])
    | times g lo hi =>
      clear many
      simp only [foD] at *
      have hg := hpd g (by simp [Fo.parts])
      have hok' : g.ok ∧ oks lo hi := hok
      have ho := hok'.2
      refine seq_k fun K hK => ?_
      refine if_k fun KA KB hA hB => ?_
      try simp (disch := first | assumption | omega | decide) only [wpA, wpB, wpC, wpD, *, -hK, -hA, -hB, -q, -hpd]
      refine hB _ ?_
      clear hA hB
      try simp (disch := first | assumption | omega | decide) only [wpA, wpB, wpC, wpD, *, -hK, -q, -hpd]
      refine hK _ _ ?_
      clear hK
      refine seq_k fun K hK => ?_
      refine if_k fun KA KB hA hB => ?_
      try simp (disch := first | assumption | omega | decide) only [wpA, wpB, wpC, wpD, *, -hK, -hA, -hB, -q, -hpd]
      refine hB _ ?_
      clear hA hB
      try simp (disch := first | assumption | omega | decide) only [wpA, wpB, wpC, wpD, *, -hK, -q, -hpd]
      refine hK _ _ ?_
      clear hK
      refine seq_k fun K hK => ?_
      try simp (disch := first | assumption | omega | decide) only [wpA, wpB, wpC, wpD, *, -hK, -q, -hpd]
      refine size_ok n g (by omega) hg.2.1 (by omega) s _ fun s1 f1 => hK _ _ ?_
      clear hK hpd
      refine seq_k fun K hK => ?_
      try simp (disch := first | assumption | omega | decide) only [wpA, wpB, wpC, wpD, *, -hK, -q]
      refine hK _ _ ?_
      clear hK
      have hin : oIn (.tup [.int lo, hiD hi]) (.loc s1.length) (s1 ++ [MO.lst [.tup [.int 0, .int 1], .tup [.int 0, .non], .tup [.int 1, .non]]]) = .ok (.bl (isPl lo hi)) (s1 ++ [MO.lst [.tup [.int 0, .int 1], .tup [.int 0, .non], .tup [.int 1, .non]]]) := in_plL (by simp [plD])
      have f2 : Fr [] s (s1 ++ [MO.lst [.tup [.int 0, .int 1], .tup [.int 0, .non], .tup [.int 1, .non]]]) := f1.trans .app
      have h1 := ho.1
      refine seq_k fun K hK => ?_
      refine if_k fun KA KB hA hB => ?_
      try simp (disch := first | assumption | omega | decide) only [wpA, wpB, wpC, wpD, *, -hA, -hB, -hK, -q]
      generalize s1 ++ [MO.lst [.tup [.int 0, .int 1], .tup [.int 0, .non], .tup [.int 1, .non]]] = s2 at f2 ⊢
      clear hin
      by_cases hpl : isPl lo hi = true
      · rw [if_pos hpl]
        refine hA _ ?_
        clear hA hB hK
        try simp (disch := first | assumption | omega | decide) only [wpA, wpB, wpC, wpD, *, -q]
        refine Eq.mp (congrArg (fun z => Q (.int z) _) ?_) (q _ f2)
        simp only [Fo.sz]; rw [if_pos hpl]; omega
      · rw [if_neg hpl]
        refine hB _ ?_
        clear hA hB
        try simp (disch := first | assumption | omega | decide) only [wpA, wpB, wpC, wpD, *, -hK, -q]
        refine hK _ _ ?_
        clear hK
        cases hi with
        | none =>
          have h2 := pl_two hpl
          have e : ((Fo.times g lo none).sz : Int) = 2 + (lo : Int) * (g.sz : Int) := by
            simp only [Fo.sz]; rw [if_neg hpl]; simp
          have hq := q _ f2
          rw [e] at hq
          clear q
          simp only [hiD]
          refine seq_k fun K hK => ?_
          refine if_k fun KA KB hA hB => ?_
          try simp (disch := first | assumption | omega | decide) only [wpA, wpB, wpC, wpD, *, -hA, -hB, -hK, -hq]
          refine hA _ ?_
          clear hA hB hK
          try simp (disch := first | assumption | omega | decide) only [wpA, wpB, wpC, wpD, *, -hq]
          refine Eq.mp (congrArg (fun z => Q (.int z) _) ?_) hq
          obtain ⟨k, rfl⟩ : ∃ k, lo = k + 1 := ⟨lo - 1, by omega⟩
          have : ((k + 1 : Nat) : Int) * (g.sz : Int) = (k : Int) * (g.sz : Int) + (g.sz : Int) := by rw [Int.natCast_add, Int.add_mul]; simp
          rw [this, show ((k + 1 : Nat) : Int) - 1 = (k : Int) by omega]
          omega
        | some h =>
          have h2 := ho.2 h rfl
          obtain ⟨m, rfl⟩ : ∃ m, h = lo + m := ⟨h - lo, by omega⟩
          have hm : m ≤ 12 := by omega
          have esz : ((Fo.times g lo (some (lo + m))).sz : Int) = (lo : Int) * (g.sz : Int) + (tlN g.sz m : Nat) + (b2n (lo + b2n (0 < m) > 1) : Nat) := by
            simp only [Fo.sz]; rw [if_neg hpl, tlN_eq]; simp
          have hq : ∀ s', Fr [] s s' → Q (.int ((lo : Int) * (g.sz : Int) + (tlN g.sz m : Nat) + (b2n (lo + b2n (0 < m) > 1) : Nat))) s' := fun s' f => by rw [← esz]; exact q s' f
          clear q
          simp only [hiD]
          refine seq_k fun K hK => ?_
          refine if_k fun KA KB hA hB => ?_
          try simp (disch := first | assumption | omega | decide) only [wpA, wpB, wpC, wpD, *, -hA, -hB, -hK, -hq]
          refine hB _ ?_
          clear hA hB
          try simp (disch := first | assumption | omega | decide) only [wpA, wpB, wpC, wpD, *, -hK, -hq]
          refine hK _ _ ?_
          clear hK
          refine seq_k fun K hK => ?_
          try simp (disch := first | assumption | omega | decide) only [wpA, wpB, wpC, wpD, *, -hK, -hq]
          refine hK _ _ ?_
          clear hK
          refine seq_k fun K hK => ?_
          have em : ((lo + m : Nat) : Int) - (lo : Int) = (m : Int) := by omega
          try simp (disch := first | assumption | omega | decide) only [wpA, wpB, wpC, wpD, *, -hK, -hq]
          refine for_by (fun i σ s3 => s3 = s2 ∧ ∃ x5, σ = [some (Dv.tup [.str (Str.ofString "times"), foD g, .int lo, .int (lo + m : Nat)]), some (.int g.sz), some (.int lo), some (.int (lo + m : Nat)), some (.int (tlN g.sz i : Nat)), x5, none]) ⟨rfl, none, rfl⟩ (fun _ _ _ _ => trivial) ?_ ?_
          · rintro i x σ s3 hx ⟨rfl, x5, rfl⟩
            try simp (disch := first | assumption | omega | decide) only [wpA, wpB, wpC, wpD, *, -hK, -hq]
            refine ⟨some x, ?_⟩
            simp only [List.cons.injEq, Option.some.injEq, Dv.int.injEq, true_and, and_true]
            simp only [tlN, b2n]
            repeat' split
            all_goals omega
          · rintro σ s3 ⟨rfl, x5, rfl⟩
            rw [rngI_len]
            refine hK _ _ ?_
            clear hK
            try simp (disch := first | assumption | omega | decide) only [wpA, wpB, wpC, wpD, *, -hq]
            refine Eq.mp (congrArg (fun z => Q (.int z) _) ?_) (hq _ f2)
            unfold b2n
            repeat' split
            all_goals omega
end
end Mid
namespace Mid
open PySem
noncomputable section
variable {s s' : Mst} {Q : Dv → Mst → Prop} {p w c : Nat}
/-- one form alone, or a row of forms -/
def rowOf : List Fo → Fo
  | [f] => f
  | l => .row l
/-- optional ones, one within the other -/
def tlF (q : Fo) : Nat → List Fo
  | 0 => []
  | k + 1 => [.times (rowOf (q :: tlF q k)) 0 (some 1)]
def opT (q : Fo) (lo : Nat) (hi : Option Nat) : Fo := if isPl lo hi = true then .times q lo hi else match hi with
  | none => .row (List.replicate (lo - 1) q ++ [.times q 1 none])
  | some h => rowOf (List.replicate lo q ++ tlF q (h - lo))
mutual
/-- a form opened -/
def Fo.opn : Fo → Fo
  | .sign x => .sign x
  | .row l => .row (Fo.opns l)
  | .pick l => .pick (Fo.opns l)
  | .times p lo hi => opT p.opn lo hi
def Fo.opns : List Fo → List Fo
  | [] => []
  | f :: r => f.opn :: Fo.opns r
end
theorem Fo.opns_map : ∀ l : List Fo, Fo.opns l = l.map Fo.opn
  | [] => by simp only [Fo.opns, List.map_nil]
  | f :: r => by simp only [Fo.opns, List.map_cons, Fo.opns_map r]
theorem rowOf_D (l : List Fo) (h : l.length ≠ 1) : rowOf l = .row l := by
  unfold rowOf
  split
  · simp at h
  · rfl
theorem put_ok {l : List Fo} {n : Nat} (h : s[n]? = some (.lst (l.map foD))) (q : ∀ s', Fr [] s s' → Q (foD (rowOf l)) s') : (f_put_in_a_row [.loc n] s).to Q := by
  unfold f_put_in_a_row
  refine fun_at [some (.loc n)] rfl rfl ?_
  unfold m_put_in_a_row
  try simp (disch := first | assumption | omega | decide) only [wpA, wpB, wpC, wpD, *, -q]
  match l with
  | [f] => 
    rw [if_pos (by simp)]
    exact q s .refl
  | [] => 
    rw [if_neg (by simp)]
    have := q s .refl
    simp only [rowOf, foD, foDs_map] at this
    exact this
  | f :: g :: r =>
    rw [if_neg (by simp; omega)]
    have := q s .refl
    simp only [rowOf, foD, foDs_map] at this
    exact this
theorem repl_one {α : Type} (d : α) : ∀ k : Nat, (List.replicate k [d]).flatten = List.replicate k d
  | 0 => rfl
  | k + 1 => by rw [List.replicate_succ, List.flatten_cons, repl_one d k, List.replicate_succ]; rfl
theorem oMul_one {n k : Nat} {d : Dv} (h : s[n]? = some (.lst [d])) (hk : k ≤ 1000) : oMul (.loc n) (.int (k : Int)) s = .ok (.loc s.length) (s ++ [.lst (List.replicate k d)]) := by
  unfold oMul
  simp only [h]
  rw [if_pos (by simp; omega), Int.toNat_natCast, repl_one]
  rfl
theorem oMul_tup {k : Nat} {d : Dv} (hk : k ≤ 1000) : oMul (.tup [d]) (.int (k : Int)) s = .ok (.tup (List.replicate k d)) s := by
  unfold oMul
  simp only
  rw [if_pos (by simp; omega), Int.toNat_natCast, repl_one]
theorem laid_ok {f : Fo} {lo : Nat} {hi : Option Nat} (ho : oks lo hi) (q : ∀ s', Fr [] s s' → Q (foD (opT f lo hi)) s') : (f_laid_out [foD f, .int lo, hiD hi] s).to Q := by
  unfold f_laid_out
  refine fun_at [some (foD f), some (.int lo), some (hiD hi), none, none] rfl rfl ?_
  unfold m_laid_out
  have hin : oIn (.tup [.int lo, hiD hi]) (.clst [.tup [.int 0, .int 1], .tup [.int 0, .non], .tup [.int 1, .non]]) s = .ok (.bl (isPl lo hi)) s := in_pl
  refine seq_k fun K hK => ?_
  refine if_k fun KA KB hA hB => ?_
  try simp (disch := first | assumption | omega | decide) only [wpA, wpB, wpC, wpD, *, -hA, -hB, -hK, -q]
  clear hin
  by_cases hpl : isPl lo hi = true
  · rw [if_pos hpl]
    refine hA _ ?_
    clear hA hB hK
    try simp (disch := first | assumption | omega | decide) only [wpA, wpB, wpC, wpD, *, -q]
    have := q s .refl
    unfold opT at this
    rw [if_pos hpl] at this
    simp only [foD] at this
    exact this
  · rw [if_neg hpl]
    refine hB _ ?_
    clear hA hB
    try simp (disch := first | assumption | omega | decide) only [wpA, wpB, wpC, wpD, *, -hK, -q]
    refine hK _ _ ?_
    clear hK
    have h1 := ho.1
    unfold opT at q
    rw [if_neg hpl] at q
    cases hi with
    | none =>
      have h2 := pl_two hpl
      simp only [hiD] at *
      refine seq_k fun K hK => ?_
      refine if_k fun KA KB hA hB => ?_
      try simp (disch := first | assumption | omega | decide) only [wpA, wpB, wpC, wpD, *, -hA, -hB, -hK, -q]
      refine hA _ ?_
      clear hA hB hK
      try simp (disch := first | assumption | omega | decide) only [wpA, wpB, wpC, wpD, *, -q]
      obtain ⟨k, rfl⟩ : ∃ k, lo = k + 1 := ⟨lo - 1, by omega⟩
      rw [show ((k + 1 : Nat) : Int) - 1 = (k : Int) by omega, oMul_one (d := foD f) (by simp) (by omega), to_ok]
      simp only [List.length_append, List.length_cons, List.length_nil]
      rw [oAdd_lst (l := List.replicate k (foD f)) (m := [Dv.tup [.str (Str.ofString "times"), foD f, .int 1, .non]]) (by simp) (by simp [Nat.add_assoc]) (by simp; omega), to_ok]
      refine put_ok (l := List.replicate k f ++ [.times f 1 none]) (by simp [foD, hiD]) fun s' f' => ?_
      have := q s' (Fr.trans (by simp only [List.append_assoc]; exact .app) f')
      rw [Nat.add_sub_cancel] at this
      rw [rowOf_D _ (by simp; omega)]
      exact this
    | some h =>
      have h2 := ho.2 h rfl
      simp only [hiD] at *
      refine seq_k fun K hK => ?_
      refine if_k fun KA KB hA hB => ?_
      try simp (disch := first | assumption | omega | decide) only [wpA, wpB, wpC, wpD, *, -hA, -hB, -hK, -q]
      refine hB _ ?_
      clear hA hB
      try simp (disch := first | assumption | omega | decide) only [wpA, wpB, wpC, wpD, *, -hK, -q]
      refine hK _ _ ?_
      clear hK
      refine seq_k fun K hK => ?_
      try simp (disch := first | assumption | omega | decide) only [wpA, wpB, wpC, wpD, *, -hK, -q]
      refine hK _ _ ?_
      clear hK
      refine seq_k fun K hK => ?_
      try simp (disch := first | assumption | omega | decide) only [wpA, wpB, wpC, wpD, *, -hK, -q]
      have em : ((h : Int) - (lo : Int)).toNat = h - lo := by omega
      rw [em]
      refine for_by (fun i σ s3 => Fr [] s s3 ∧ ∃ n x4, σ = [some (foD f), some (.int lo), some (.int h), some (.loc n), x4] ∧ s3[n]? = some (.lst ((tlF f i).map foD))) ⟨.app, _, none, rfl, by simp [tlF]⟩ (fun _ _ _ _ => trivial) ?_ ?_
      · rintro i x σ s3 hx ⟨f3, n, x4, rfl, h3⟩
        have hl3 := lt_of h3
        have hl4 : (tlF f i).length ≤ 1 := by cases i <;> simp [tlF]
        try simp (disch := first | assumption | omega | decide) only [wpA, wpB, wpC, wpD, *, -hK, -q]
        rw [oAdd_lst (l := [foD f]) (m := (tlF f i).map foD) (by simp) (look_app h3) (by simp; omega), to_ok]
        refine put_ok (l := f :: tlF f i) (by simp) fun s4 f4 => ?_
        try simp (disch := first | assumption | omega | decide) only [wpA, wpB, wpC, wpD, *, -hK, -q]
        refine ⟨f3.trans ((Fr.trans (by simp only [List.append_assoc]; exact .app) f4).trans .app), _, _, rfl, ?_⟩
        simp [tlF, foD, hiD]
      · rintro σ s3 ⟨f3, n, x4, rfl, h3⟩
        rw [rngI_len] at h3
        refine hK _ _ ?_
        clear hK
        have hl4 : (tlF f (h - lo)).length ≤ 1 := by cases (h - lo) <;> simp [tlF]
        have hl3 := lt_of h3
        try simp (disch := first | assumption | omega | decide) only [wpA, wpB, wpC, wpD, *, -q]
        rw [oMul_one (d := foD f) (by simp) (by omega), to_ok]
        simp only [List.length_append, List.length_cons, List.length_nil]
        rw [oAdd_lst (l := List.replicate lo (foD f)) (m := (tlF f (h - lo)).map foD) (by simp) (look_app (look_app h3)) (by simp; omega), to_ok]
        exact put_ok (l := List.replicate lo f ++ tlF f (h - lo)) (by simp) fun s' f' => q s' (f3.trans (Fr.trans (by simp only [List.append_assoc]; exact .app) f'))
theorem opened_inside_ok : ∀ (n : Nat) (f : Fo), f.dep ≤ n → f.ok → f.sz < 1000000 → ∀ (s : Mst) (Q : Dv → Mst → Prop), (∀ s', Fr [] s s' → Q (foD f.opn) s') → (f_opened_inside n [foD f] s).to Q
  | 0, f, hd, _, _, s, Q, q => by cases f <;> simp only [Fo.dep] at hd <;> omega
  | n + 1, f, hd, hok, hz, s, Q, q => by
    unfold f_opened_inside
    refine fun_at [some (foD f), none] rfl rfl ?_
    unfold m_opened_inside
    have hpd := Fo.parts_bd f hok
    have hlen := Fo.parts_len f hok
    have many : ∀ (l : List Fo), f.parts = l → ∀ Q : List Dv → Mst → Prop, (∀ s', Fr [] s s' → Q (l.map fun g => foD g.opn) s') → (lcF [] (gN 1) mtYes (mCall (noE (f_opened_inside n)) [mVar 1]) [some (foD f), none] (List.map foD l) s).to Q := by
      intro l el Q q
      refine lc_val l foD (fun g => foD g.opn) (fun _ _ => trivial) ?_ ?_
      · intro g hg s1 f1
        try simp (disch := first | assumption | omega | decide) only [wpA, wpB, wpC, wpD, *, -q, -hpd]
        have := hpd g (by rw [el]; exact hg)
        exact opened_inside_ok n g (by omega) this.2.1 (by omega) s1 _ fun s2 f2 => ⟨rfl, f2⟩
      · exact q
    cases f with
    | sign x =>
      simp only [foD] at *
      refine seq_k fun K hK => ?_
      refine if_k fun KA KB hA hB => ?_
      try simp (disch := first | assumption | omega | decide) only [wpA, wpB, wpC, wpD, *, -hK, -hA, -hB, -q, -hpd, -many]
      refine hA _ ?_
      clear hA hB hK
      try simp (disch := first | assumption | omega | decide) only [wpA, wpB, wpC, wpD, *, -q, -hpd, -many]
      have := q s .refl
      simp only [Fo.opn, foD] at this
      exact this
    | row l =>
      simp only [foD, foDs_map] at *
      refine seq_k fun K hK => ?_
      refine if_k fun KA KB hA hB => ?_
      try simp (disch := first | assumption | omega | decide) only [wpA, wpB, wpC, wpD, *, -hK, -hA, -hB, -q, -hpd, -many]
      refine hB _ ?_
      clear hA hB
      try simp (disch := first | assumption | omega | decide) only [wpA, wpB, wpC, wpD, *, -hK, -q, -hpd, -many]
      refine hK _ _ ?_
      clear hK
      refine seq_k fun K hK => ?_
      refine if_k fun KA KB hA hB => ?_
      try simp (disch := first | assumption | omega | decide) only [wpA, wpB, wpC, wpD, *, -hK, -hA, -hB, -q, -hpd, -many]
      refine hB _ ?_
      clear hA hB
      try simp (disch := first | assumption | omega | decide) only [wpA, wpB, wpC, wpD, *, -hK, -q, -hpd, -many]
      refine hK _ _ ?_
      clear hK
      have hl : l.length < 1000000 := by simp only [Fo.parts] at hlen; omega
      try simp (disch := first | assumption | omega | decide) only [wpA, wpB, wpC, wpD, *, -q, -hpd, -many]
      refine many l rfl _ fun s1 f1 => ?_
      try simp (disch := first | assumption | omega | decide) only [wpA, wpB, wpC, wpD, *, -q]
      have := q _ (f1.trans (Fr.app (t := [MO.lst (l.map fun g => foD g.opn)])))
      simp only [Fo.opn, foD, foDs_map, Fo.opns_map, List.map_map] at this
      exact this
    | pick l =>
      simp only [foD, foDs_map] at *
      refine seq_k fun K hK => ?_
      refine if_k fun KA KB hA hB => ?_
      try simp (disch := first | assumption | omega | decide) only [wpA, wpB, wpC, wpD, *, -hK, -hA, -hB, -q, -hpd, -many]
      refine hB _ ?_
      clear hA hB
      try simp (disch := first | assumption | omega | decide) only [wpA, wpB, wpC, wpD, *, -hK, -q, -hpd, -many]
      refine hK _ _ ?_
      clear hK
      refine seq_k fun K hK => ?_
      refine if_k fun KA KB hA hB => ?_
      try simp (disch := first | assumption | omega | decide) only [wpA, wpB, wpC, wpD, *, -hK, -hA, -hB, -q, -hpd, -many]
      refine hB _ ?_
      clear hA hB
      try simp (disch := first | assumption | omega | decide) only [wpA, wpB, wpC, wpD, *, -hK, -q, -hpd, -many]
      refine hK _ _ ?_
      clear hK
      have hl : l.length < 1000000 := by simp only [Fo.parts] at hlen; omega
      try simp (disch := first | assumption | omega | decide) only [wpA, wpB, wpC, wpD, *, -q, -hpd, -many]
      refine many l rfl _ fun s1 f1 => ?_
      try simp (disch := first | assumption | omega | decide) only [wpA, wpB, wpC, wpD, *, -q]
      have := q _ (f1.trans (Fr.app (t := [MO.lst (l.map fun g => foD g.opn)])))
      simp only [Fo.opn, foD, foDs_map, Fo.opns_map, List.map_map] at this
      exact this
    | times g lo hi =>
      clear many
      simp only [foD] at *
      have hg := hpd g (by simp [Fo.parts])
      have hok' : g.ok ∧ oks lo hi := hok
      have ho := hok'.2
      refine seq_k fun K hK => ?_
      refine if_k fun KA KB hA hB => ?_
      try simp (disch := first | assumption | omega | decide) only [wpA, wpB, wpC, wpD, *, -hK, -hA, -hB, -q, -hpd]
      refine hB _ ?_
      clear hA hB
      try simp (disch := first | assumption | omega | decide) only [wpA, wpB, wpC, wpD, *, -hK, -q, -hpd]
      refine hK _ _ ?_
      clear hK
      refine seq_k fun K hK => ?_
      refine if_k fun KA KB hA hB => ?_
      try simp (disch := first | assumption | omega | decide) only [wpA, wpB, wpC, wpD, *, -hK, -hA, -hB, -q, -hpd]
      refine hA _ ?_
      clear hA hB hK
      try simp (disch := first | assumption | omega | decide) only [wpA, wpB, wpC, wpD, *, -q, -hpd]
      refine opened_inside_ok n g (by omega) hg.2.1 (by omega) s _ fun s1 f1 => ?_
      try simp (disch := first | assumption | omega | decide) only [wpA, wpB, wpC, wpD, *, -q, -hpd]
      refine laid_ok ho fun s2 f2 => ?_
      have := q s2 (f1.trans f2)
      simp only [Fo.opn] at this
      exact this
end
end Mid
namespace Mid
open PySem
noncomputable section
variable {s s' : Mst} {Q : Dv → Mst → Prop} {p w c : Nat}
def tl1 (q : Fo) : Nat → Fo
  | 0 => .times q 0 (some 1)
  | k + 1 => .times (.row [q, tl1 q k]) 0 (some 1)
theorem tlF_1 (q : Fo) : ∀ k, tlF q (k + 1) = [tl1 q k]
  | 0 => rfl
  | k + 1 => by
    show [Fo.times (rowOf (q :: tlF q (k + 1))) 0 (some 1)] = _
    rw [tlF_1 q k]; rfl
theorem rowOf_row (l : List Fo) : foD (rowOf l) = if l.length = 1 then (match l with | [f] => foD f | _ => .non) else .tup [.str (Str.ofString "row"), .tup (l.map foD)] := by
  match l with
  | [f] => simp [rowOf]
  | [] => simp [rowOf, foD, foDs]
  | f :: g :: r => simp [rowOf, foD, foDs_map]
theorem law_opened_ok : ∀ (n : Nat) (f : Fo), f.dep ≤ n → f.ok → f.sz < 1000000 → ∀ (s : Mst) (Q : Dv → Mst → Prop), (∀ s', Fr [] s s' → Q (foD f.opn) s') → (f_law_e_opened n [foD f] s).to Q
  | 0, f, hd, _, _, s, Q, q => by cases f <;> simp only [Fo.dep] at hd <;> omega
  | n + 1, f, hd, hok, hz, s, Q, q => by
    unfold f_law_e_opened
    refine fun_at [some (foD f), none, none, none, none, none, none, none] rfl rfl ?_
    unfold m_law_e_opened
    have hpd := Fo.parts_bd f hok
    have hlen := Fo.parts_len f hok
    have many : ∀ (l : List Fo), f.parts = l → ∀ Q : List Dv → Mst → Prop, (∀ s', Fr [] s s' → Q (l.map fun g => foD g.opn) s') → (lcF [] (gN 7) mtYes (mCall (noE (f_law_e_opened n)) [mVar 7]) [some (foD f), none, none, none, none, none, none, none] (List.map foD l) s).to Q := by
      intro l el Q q
      refine lc_val l foD (fun g => foD g.opn) (fun _ _ => trivial) ?_ ?_
      · intro g hg s1 f1
        try simp (disch := first | assumption | omega | decide) only [wpA, wpB, wpC, wpD, *, -q, -hpd]
        have := hpd g (by rw [el]; exact hg)
        exact law_opened_ok n g (by omega) this.2.1 (by omega) s1 _ fun s2 f2 => ⟨rfl, f2⟩
      · exact q
    cases f with
    | sign x =>
      simp only [foD] at *
      refine seq_k fun K hK => ?_
      refine if_k fun KA KB hA hB => ?_
      try simp (disch := first | assumption | omega | decide) only [wpA, wpB, wpC, wpD, *, -hK, -hA, -hB, -q, -hpd, -many]
      refine hA _ ?_
      clear hA hB hK
      try simp (disch := first | assumption | omega | decide) only [wpA, wpB, wpC, wpD, *, -q, -hpd, -many]
      have := q s .refl
      simp only [Fo.opn, foD] at this
      exact this
    | row l =>
      simp only [foD, foDs_map] at *
      refine seq_k fun K hK => ?_
      refine if_k fun KA KB hA hB => ?_
      try simp (disch := first | assumption | omega | decide) only [wpA, wpB, wpC, wpD, *, -hK, -hA, -hB, -q, -hpd, -many]
      refine hB _ ?_
      clear hA hB
      try simp (disch := first | assumption | omega | decide) only [wpA, wpB, wpC, wpD, *, -hK, -q, -hpd, -many]
      refine hK _ _ ?_
      clear hK
      refine seq_k fun K hK => ?_
      refine if_k fun KA KB hA hB => ?_
      try simp (disch := first | assumption | omega | decide) only [wpA, wpB, wpC, wpD, *, -hK, -hA, -hB, -q, -hpd, -many]
      refine hA _ ?_
      clear hA hB hK
      have hl : l.length < 1000000 := by simp only [Fo.parts] at hlen; omega
      try simp (disch := first | assumption | omega | decide) only [wpA, wpB, wpC, wpD, *, -q, -hpd, -many]
      refine many l rfl _ fun s1 f1 => ?_
      try simp (disch := first | assumption | omega | decide) only [wpA, wpB, wpC, wpD, *, -q]
      have := q _ (f1.trans (Fr.app (t := [MO.lst (l.map fun g => foD g.opn)])))
      simp only [Fo.opn, foD, foDs_map, Fo.opns_map, List.map_map] at this
      exact this
    | pick l =>
      simp only [foD, foDs_map] at *
      refine seq_k fun K hK => ?_
      refine if_k fun KA KB hA hB => ?_
      try simp (disch := first | assumption | omega | decide) only [wpA, wpB, wpC, wpD, *, -hK, -hA, -hB, -q, -hpd, -many]
      refine hB _ ?_
      clear hA hB
      try simp (disch := first | assumption | omega | decide) only [wpA, wpB, wpC, wpD, *, -hK, -q, -hpd, -many]
      refine hK _ _ ?_
      clear hK
      refine seq_k fun K hK => ?_
      refine if_k fun KA KB hA hB => ?_
      try simp (disch := first | assumption | omega | decide) only [wpA, wpB, wpC, wpD, *, -hK, -hA, -hB, -q, -hpd, -many]
      refine hA _ ?_
      clear hA hB hK
      have hl : l.length < 1000000 := by simp only [Fo.parts] at hlen; omega
      try simp (disch := first | assumption | omega | decide) only [wpA, wpB, wpC, wpD, *, -q, -hpd, -many]
      refine many l rfl _ fun s1 f1 => ?_
      try simp (disch := first | assumption | omega | decide) only [wpA, wpB, wpC, wpD, *, -q]
      have := q _ (f1.trans (Fr.app (t := [MO.lst (l.map fun g => foD g.opn)])))
      simp only [Fo.opn, foD, foDs_map, Fo.opns_map, List.map_map] at this
      exact this
    | times g lo hi =>
      clear many
      simp only [foD] at *
      have hg := hpd g (by simp [Fo.parts])
      have hok' : g.ok ∧ oks lo hi := hok
      have ho := hok'.2
      refine seq_k fun K hK => ?_
      refine if_k fun KA KB hA hB => ?_
      try simp (disch := first | assumption | omega | decide) only [wpA, wpB, wpC, wpD, *, -hK, -hA, -hB, -q, -hpd]
      refine hB _ ?_
      clear hA hB
      try simp (disch := first | assumption | omega | decide) only [wpA, wpB, wpC, wpD, *, -hK, -q, -hpd]
      refine hK _ _ ?_
      clear hK
      refine seq_k fun K hK => ?_
      refine if_k fun KA KB hA hB => ?_
      try simp (disch := first | assumption | omega | decide) only [wpA, wpB, wpC, wpD, *, -hK, -hA, -hB, -q, -hpd]
      refine hB _ ?_
      clear hA hB
      try simp (disch := first | assumption | omega | decide) only [wpA, wpB, wpC, wpD, *, -hK, -q, -hpd]
      refine hK _ _ ?_
      clear hK
      refine seq_k fun K hK => ?_
      try simp (disch := first | assumption | omega | decide) only [wpA, wpB, wpC, wpD, *, -hK, -q, -hpd]
      refine law_opened_ok n g (by omega) hg.2.1 (by omega) s _ fun s1 f1 => hK _ _ ?_
      clear hK hpd
      refine seq_k fun K hK => ?_
      try simp (disch := first | assumption | omega | decide) only [wpA, wpB, wpC, wpD, *, -hK, -q]
      refine hK _ _ ?_
      clear hK
      have hin : oIn (.tup [.int lo, hiD hi]) (.loc s1.length) (s1 ++ [MO.lst [.tup [.int 0, .int 1], .tup [.int 0, .non], .tup [.int 1, .non]]]) = .ok (.bl (isPl lo hi)) (s1 ++ [MO.lst [.tup [.int 0, .int 1], .tup [.int 0, .non], .tup [.int 1, .non]]]) := in_plL (by simp [plD])
      have f2 : Fr [] s (s1 ++ [MO.lst [.tup [.int 0, .int 1], .tup [.int 0, .non], .tup [.int 1, .non]]]) := f1.trans .app
      have h1 := ho.1
      have hq := q _ f2
      clear q
      generalize hs2 : s1 ++ [MO.lst [.tup [.int 0, .int 1], .tup [.int 0, .non], .tup [.int 1, .non]]] = s2 at f2 hin hq
      simp only [Fo.opn] at hq
      generalize g.opn = o at hq ⊢
      refine seq_k fun K hK => ?_
      refine if_k fun KA KB hA hB => ?_
      try simp (disch := first | assumption | omega | decide) only [wpA, wpB, wpC, wpD, *, -hA, -hB, -hK, -hq]
      clear hin hs2
      unfold opT at hq
      by_cases hpl : isPl lo hi = true
      · rw [if_pos hpl]
        rw [if_pos hpl] at hq
        refine hA _ ?_
        clear hA hB hK
        try simp (disch := first | assumption | omega | decide) only [wpA, wpB, wpC, wpD, *, -hq]
        simp only [foD] at hq
        exact hq
      · rw [if_neg hpl]
        rw [if_neg hpl] at hq
        refine hB _ ?_
        clear hA hB
        try simp (disch := first | assumption | omega | decide) only [wpA, wpB, wpC, wpD, *, -hK, -hq]
        refine hK _ _ ?_
        clear hK
        cases hi with
        | none =>
          have h2 := pl_two hpl
          obtain ⟨k, rfl⟩ : ∃ k, lo = k + 1 := ⟨lo - 1, by omega⟩
          have em : ((k + 1 : Nat) : Int) - 1 = (k : Int) := by omega
          have emul : oMul (.tup [foD o]) (.int (k : Int)) s2 = .ok (.tup (List.replicate k (foD o))) s2 := oMul_tup (by omega)
          simp only [hiD]
          refine seq_k fun K hK => ?_
          refine if_k fun KA KB hA hB => ?_
          try simp (disch := first | assumption | omega | decide) only [wpA, wpB, wpC, wpD, *, -hA, -hB, -hK, -hq]
          refine hA _ ?_
          clear hA hB hK
          try simp (disch := first | assumption | omega | decide) only [wpA, wpB, wpC, wpD, *, -hq]
          rw [oAdd_tup (by simp; omega), to_ok]
          simp only [Nat.add_sub_cancel, foD, foDs_map, List.map_append, List.map_replicate, List.map_cons, List.map_nil, hiD] at hq
          exact hq
        | some h =>
          have h2 := ho.2 h rfl
          obtain ⟨m, rfl⟩ : ∃ m, h = lo + m := ⟨h - lo, by omega⟩
          have hm : m ≤ 12 := by omega
          have emul : oMul (.tup [foD o]) (.int (lo : Int)) s2 = .ok (.tup (List.replicate lo (foD o))) s2 := oMul_tup (by omega)
          simp only [Nat.add_sub_cancel_left] at hq
          simp only [hiD]
          refine seq_k fun K hK => ?_
          refine if_k fun KA KB hA hB => ?_
          try simp (disch := first | assumption | omega | decide) only [wpA, wpB, wpC, wpD, *, -hA, -hB, -hK, -hq]
          refine hB _ ?_
          clear hA hB
          try simp (disch := first | assumption | omega | decide) only [wpA, wpB, wpC, wpD, *, -hK, -hq]
          refine hK _ _ ?_
          clear hK
          refine seq_k fun K hK => ?_
          try simp (disch := first | assumption | omega | decide) only [wpA, wpB, wpC, wpD, *, -hK, -hq]
          refine hK _ _ ?_
          clear hK emul
          -- the last row
          have last : ∀ (l : List Fo) (x5 x6 : Option Dv), l.length < 1000 → List.replicate lo o ++ tlF o m = l → (msRet (mIf (mtVal (mOp oEq (mCall bLen [mVar 4]) (mC (Dv.int 1)))) (mOp oGet (mVar 4) (mC (Dv.int 0))) (mTup [mC (Dv.str (Str.ofString "row")), mVar 4])) [some (Dv.tup [.str (Str.ofString "times"), foD g, .int lo, .int (lo + m : Nat)]), some (foD o), some (.int lo), some (.int (lo + m : Nat)), some (.tup (l.map foD)), x5, x6, none] s2).to (fun x s => Q Dv.non s) Q (fun x x_1 => False) fun x x_1 => False := by
            intro l x5 x6 hl el
            rw [el, rowOf_row] at hq
            try simp (disch := first | assumption | omega | decide) only [wpA, wpB, wpC, wpD, *, -hq]
            match l with
            | [f] =>
              rw [if_pos (by simp)] at hq
              rw [if_pos (by simp)]
              exact hq
            | [] =>
              rw [if_neg (by simp)] at hq
              rw [if_neg (by simp)]
              exact hq
            | f :: g :: r =>
              rw [if_neg (by simp)] at hq
              rw [if_neg (by simp; omega)]
              exact hq
          clear hq
          refine seq_k fun K hK => ?_
          refine if_k fun KA KB hA hB => ?_
          try simp (disch := first | assumption | omega | decide) only [wpA, wpB, wpC, wpD, *, -hA, -hB, -hK, -last]
          cases m with
          | zero =>
            rw [if_neg (by omega)]
            refine hB _ ?_
            clear hA hB
            try simp (disch := first | assumption | omega | decide) only [wpA, wpB, wpC, wpD, *, -hK, -last]
            refine hK _ _ ?_
            have := last (List.replicate lo o) none none (by simp; omega) (by simp [tlF])
            simp only [List.map_replicate] at this
            exact this
          | succ m =>
            rw [if_pos (by omega)]
            refine hA _ ?_
            clear hA hB
            refine seq_k fun K2 hK2 => ?_
            try simp (disch := first | assumption | omega | decide) only [wpA, wpB, wpC, wpD, *, -hK, -hK2, -last]
            refine hK2 _ _ ?_
            clear hK2
            have em : ((lo + (m + 1) : Nat) : Int) - (lo : Int) - 1 = (m : Int) := by omega
            refine seq_k fun K2 hK2 => ?_
            try simp (disch := first | assumption | omega | decide) only [wpA, wpB, wpC, wpD, *, -hK, -hK2, -last]
            refine for_by (fun i σ s3 => s3 = s2 ∧ ∃ x6, σ = [some (Dv.tup [.str (Str.ofString "times"), foD g, .int lo, .int (lo + (m + 1) : Nat)]), some (foD o), some (.int lo), some (.int (lo + (m + 1) : Nat)), some (.tup (List.replicate lo (foD o))), some (foD (tl1 o i)), x6, none]) ⟨rfl, none, by simp only [tl1, foD, hiD]; rfl⟩ (fun _ _ _ _ => trivial) ?_ ?_
            · rintro i x σ s3 hx ⟨rfl, x6, rfl⟩
              try simp (disch := first | assumption | omega | decide) only [wpA, wpB, wpC, wpD, *, -hK, -hK2, -last]
              refine ⟨some x, ?_⟩
              simp only [tl1, foD, foDs, hiD]; rfl
            · rintro σ s3 ⟨rfl, x6, rfl⟩
              rw [rngI_len]
              refine hK2 _ _ ?_
              clear hK2
              try simp (disch := first | assumption | omega | decide) only [wpA, wpB, wpC, wpD, *, -hK, -last]
              rw [oAdd_tup (by simp; omega), to_ok]
              refine hK _ _ ?_
              have := last (List.replicate lo o ++ [tl1 o m]) (some (foD (tl1 o m))) x6 (by simp; omega) (by rw [tlF_1])
              simp only [List.map_append, List.map_replicate, List.map_cons, List.map_nil] at this
              exact this
end
end Mid
namespace Mid
open PySem
noncomputable section
variable {s s' : Mst} {Q : Dv → Mst → Prop} {p w c : Nat}
def tkB : Nat → Nat
  | 0 => 2
  | d + 1 => 4 + 3 * tkB d
def szB : Nat → Nat
  | 0 => 1
  | d + 1 => 3 * szB d + 8
def bndL : List (Nat × Option Nat) := [(0, some 1), (0, none), (1, none), (0, some 2), (1, some 2), (2, some 2), (1, some 3), (2, some 3), (2, none), (1, some 1), (0, some 3)]
theorem bndL_D : bndL.map (fun b => Dv.tup [.int (b.1 : Nat), hiD b.2]) = [.tup [.int 0, .int 1], .tup [.int 0, .non], .tup [.int 1, .non], .tup [.int 0, .int 2], .tup [.int 1, .int 2], .tup [.int 2, .int 2], .tup [.int 1, .int 3], .tup [.int 2, .int 3], .tup [.int 2, .non], .tup [.int 1, .int 1], .tup [.int 0, .int 3]] := rfl
theorem bndL_ok : ∀ b ∈ bndL, oks b.1 b.2 := by
  intro b hb
  simp only [bndL, List.mem_cons, List.not_mem_nil, or_false] at hb
  rcases hb with rfl | rfl | rfl | rfl | rfl | rfl | rfl | rfl | rfl | rfl | rfl <;> exact ⟨by decide, by simp⟩
theorem bndL_sz (f : Fo) : ∀ b ∈ bndL, (Fo.times f b.1 b.2).sz ≤ 3 * f.sz + 8 := by
  intro b hb
  simp only [bndL, List.mem_cons, List.not_mem_nil, or_false] at hb
  rcases hb with rfl | rfl | rfl | rfl | rfl | rfl | rfl | rfl | rfl | rfl | rfl <;> simp [Fo.sz, isPl, b2n] <;> omega
/-- what is told of a drawn form -/
structure FoE (d : Nat) (f : Fo) : Prop where
  ok : f.ok
  dep : f.dep ≤ d + 1
  sz : f.sz ≤ szB d
theorem szs_bd {d k : Nat} : ∀ {l : List Fo}, (∀ f ∈ l, FoE d f) → l.length ≤ k → Fo.szs l ≤ k * szB d ∧ Fo.deps l ≤ d + 1 ∧ Fo.oksL l := by
  intro l
  induction l generalizing k with
  | nil => intro _ _; simp [Fo.szs, Fo.deps, Fo.oksL]
  | cons f r ih =>
    intro h hl
    have h1 := h f (by simp)
    obtain ⟨k, rfl⟩ : ∃ j, k = j + 1 := ⟨k - 1, by simp at hl; omega⟩
    have h2 := ih (k := k) (fun g hg => h g (by simp [hg])) (by simpa using hl)
    have := h1.sz
    have := h1.dep
    simp only [Fo.szs, Fo.deps, Fo.oksL]
    exact ⟨by rw [Nat.succ_mul]; omega, by omega, h1.ok, h2.2.2⟩
theorem form_ok : ∀ (n d a c : Nat) (s : Mst) (Q : Dv → Mst → Prop) (sn : Nat) (sg : List Str), d < n → PenE p w c s → SgE s sn sg → sn ≠ p → sn ≠ w → c + tkB d < 100000000 →
    (∀ s' f, Fr [p] s s' → PenE p w (c + tkB d) s' → FoE d f → Q (foD f) s') → (f_law_e_form n [.loc p, .loc sn, .int d, .int a] s).to Q
  | 0, d, a, c, s, Q, sn, sg, hd, h, hs, h1, h2, hc, q => by omega
  | n + 1, d, a, c, s, Q, sn, sg, hd, h, hs, hp, hw, hc, q => by
    unfold f_law_e_form
    refine fun_at [some (.loc p), some (.loc sn), some (.int d), some (.int a), none, none, none, none, none] rfl rfl ?_
    unfold m_law_e_form
    refine seq_k fun K hK => ?_
    try simp (disch := first | assumption | omega | decide) only [wpA, wpB, wpC, wpD, *, -hK, -q]
    have tk2 : 2 ≤ tkB d := by cases d <;> simp [tkB] <;> omega
    refine take_ok (many := 9) h (by decide) (by decide) (by omega) fun s1 way f1 h1 hway => ?_
    try simp (disch := first | assumption | omega | decide) only [wpA, wpB, wpC, wpD, *, -hK, -q]
    refine hK _ _ ?_
    clear hK
    have hs1 := hs.fr f1 (by simpa using hp)
    have hsl := hs.le
    have hpos : 0 < sg.length := List.length_pos_iff.mpr hs.pos
    refine seq_k fun K hK => ?_
    refine if_k fun KA KB hA hB => ?_
    try simp (disch := first | assumption | omega | decide) only [wpA, wpB, wpC, wpD, *, -hK, -q, -hA, -hB]
    -- a sign
    have hsign : d = 0 ∨ way < 2 → KA s1 := by
      intro _
      refine hA _ ?_
      have hat := hs1.at_
      try simp (disch := first | assumption | omega | decide) only [wpA, wpB, wpC, wpD, *, -hK, -q, -hA, -hB]
      refine take_ok (many := sg.length) h1 hpos (by omega) (by omega) fun s2 r f2 h2 hr => ?_
      have hs2 := hs1.fr f2 (by simpa using hp)
      have hat2 := hs2.at_
      have hatq : atQ (sg.map Dv.str) (r : Int) = some (.str sg[r]) := atQ_nat (by rw [List.getElem?_map, List.getElem?_eq_getElem hr]; rfl)
      try simp (disch := first | assumption | omega | decide) only [wpA, wpB, wpC, wpD, *, -hK, -q, -hA, -hB]
      have := q s2 (.sign sg[r]) (f1.trans f2) (h2.le (by omega)) ⟨hs.low _ (by simp), by simp [Fo.dep], by cases d <;> simp [Fo.sz, szB] <;> omega⟩
      simp only [foD] at this
      exact this
    by_cases c0 : d = 0
    · rw [if_pos (by omega)]
      exact hsign (.inl c0)
    rw [if_neg (by omega)]
    by_cases c1 : way < 2
    · rw [if_pos (by omega)]
      exact hsign (.inr c1)
    rw [if_neg (by omega)]
    clear hsign
    refine hB _ ?_
    clear hA hB
    try simp (disch := first | assumption | omega | decide) only [wpA, wpB, wpC, wpD, *, -hK, -q]
    refine hK _ _ ?_
    clear hK
    obtain ⟨d, rfl⟩ : ∃ e, d = e + 1 := ⟨d - 1, by omega⟩
    simp only [tkB] at hc q
    have ed : ((d + 1 : Nat) : Int) - 1 = (d : Int) := by omega
    -- a list of forms
    have some_ : ∀ (m c' : Nat) (s2 : Mst) (k : Nat) (P : List Dv → Mst → Prop), Fr [p] s s2 → PenE p w c' s2 → m ≤ 3 → c' + 3 * tkB d < 100000000 → c' + 3 * tkB d ≤ c + (4 + 3 * tkB d) →
        (∀ s' (l : List Fo), Fr [p] s s' → PenE p w (c + (4 + 3 * tkB d)) s' → (∀ f ∈ l, FoE d f) → l.length = m → P (l.map foD) s') →
        (lcF [] (gN 8) mtYes (mCall (noE (f_law_e_form n)) [mVar 0, mVar 1, mOp oSub (mVar 2) (mC (Dv.int 1)), mVar 3]) [some (.loc p), some (.loc sn), some (.int (d + 1 : Nat)), some (.int a), some (.int way), none, none, some (.int k), none] (rngI 0 m) s2).to P := by
      intro m c' s2 k P f2 h2 hm hc' hc2 hP
      refine lc_by (fun i ds s' => Fr [p] s s' ∧ PenE p w (c' + i * tkB d) s' ∧ ∃ l : List Fo, ds = l.map foD ∧ (∀ f ∈ l, FoE d f) ∧ l.length = i) ⟨f2, by simpa using h2, [], rfl, by simp, rfl⟩ (fun _ _ _ _ => trivial) ?_ ?_
      · rintro i x ds s3 hx ⟨f3, h3, l, rfl, hl, hll⟩
        have hi : i < m := by have := (List.getElem?_eq_some_iff.mp hx).1; simpa [rngI_len] using this
        have e1 : i * tkB d + tkB d ≤ 3 * tkB d := by
          have : (i + 1) * tkB d ≤ 3 * tkB d := Nat.mul_le_mul_right _ (by omega)
          rw [Nat.succ_mul] at this; exact this
        try simp (disch := first | assumption | omega | decide) only [wpA, wpB, wpC, wpD, *, -q, -hP]
        refine form_ok n d a (c' + i * tkB d) s3 _ sn sg (by omega) h3 (hs.fr f3 (by simpa using hp)) hp hw (by omega) fun s4 f f4 h4 hf => ?_
        exact ⟨f3.trans f4, h4.le (by rw [Nat.succ_mul]; omega), l ++ [f], by simp, fun g hg => by
          rcases List.mem_append.mp hg with hg | hg
          · exact hl g hg
          · simp at hg; rw [hg]; exact hf, by simp [hll]⟩
      · rintro ds s3 ⟨f3, h3, l, rfl, hl, hll⟩
        rw [rngI_len] at h3 hll
        refine hP s3 l f3 (h3.le ?_) hl hll
        have : m * tkB d ≤ 3 * tkB d := Nat.mul_le_mul_right _ hm
        omega
    refine seq_k fun K hK => ?_
    refine if_k fun KA KB hA hB => ?_
    try simp (disch := first | assumption | omega | decide) only [wpA, wpB, wpC, wpD, *, -hK, -q, -hA, -hB, -some_]
    by_cases c2 : way < 5 ∧ 0 < a
    · rw [if_pos (by omega), if_pos (by omega)]
      refine hA _ ?_
      clear hA hB hK some_
      refine seq_k fun K hK => ?_
      obtain ⟨a, rfl⟩ : ∃ b, a = b + 1 := ⟨a - 1, by omega⟩
      have ea : ((a + 1 : Nat) : Int) - 1 = (a : Int) := by omega
      try simp (disch := first | assumption | omega | decide) only [wpA, wpB, wpC, wpD, *, -hK, -q]
      refine form_ok n d a (c + 1) s1 _ sn sg (by omega) h1 hs1 hp hw (by omega) fun s2 f f2 h2 hf => ?_
      refine hK _ _ ?_
      clear hK
      refine seq_k fun K hK => ?_
      try simp (disch := first | assumption | omega | decide) only [wpA, wpB, wpC, wpD, *, -hK, -q]
      refine hK _ _ ?_
      clear hK
      have f3 : Fr [p] s (s2 ++ [MO.lst (bndL.map (fun b => Dv.tup [.int (b.1 : Nat), hiD b.2]))]) := (f1.trans f2).trans .app
      have h3 : PenE p w (c + 1 + tkB d) (s2 ++ [MO.lst (bndL.map (fun b => Dv.tup [.int (b.1 : Nat), hiD b.2]))]) := h2.fr0 .app
      have hL : (s2 ++ [MO.lst (bndL.map (fun b => Dv.tup [.int (b.1 : Nat), hiD b.2]))])[s2.length]? = some (.lst (bndL.map (fun b => Dv.tup [.int (b.1 : Nat), hiD b.2]))) := by simp
      have hne : s2.length ≠ p := Nat.ne_of_gt h2.lt.1
      rw [← bndL_D]
      generalize s2 ++ [MO.lst (bndL.map (fun b => Dv.tup [.int (b.1 : Nat), hiD b.2]))] = s3 at f3 h3 hL ⊢
      generalize s2.length = bn at hL hne ⊢
      try simp (disch := first | assumption | omega | decide) only [wpA, wpB, wpC, wpD, *, -q]
      refine take_ok (many := 11) h3 (by decide) (by decide) (by omega) fun s4 r f4 h4 hr => ?_
      have hL4 := f4.get hL (by simpa using hne)
      have hr' : r < bndL.length := hr
      have hat : atQ (bndL.map (fun b => Dv.tup [.int (b.1 : Nat), hiD b.2])) (r : Int) = some (.tup [.int (bndL[r].1 : Nat), hiD bndL[r].2]) := atQ_nat (by rw [List.getElem?_map, List.getElem?_eq_getElem hr']; rfl)
      try simp (disch := first | assumption | omega | decide) only [wpA, wpB, wpC, wpD, *, -q]
      rw [oAdd_tup (by simp), to_ok]
      have hm : bndL[r] ∈ bndL := List.getElem_mem hr'
      have := q s4 (.times f bndL[r].1 bndL[r].2) (f3.trans f4) (h4.le (by omega)) ⟨⟨hf.ok, bndL_ok _ hm⟩, by have := hf.dep; simp only [Fo.dep]; omega, by have := bndL_sz f _ hm; have := hf.sz; simp only [szB]; omega⟩
      simp only [foD] at this
      exact this
    · have : KB s1 := by
        refine hB _ ?_
        clear hA hB
        try simp (disch := first | assumption | omega | decide) only [wpA, wpB, wpC, wpD, *, -hK, -q, -some_]
        refine hK _ _ ?_
        clear hK
        refine seq_k fun K hK => ?_
        refine if_k fun KA KB hA hB => ?_
        try simp (disch := first | assumption | omega | decide) only [wpA, wpB, wpC, wpD, *, -hK, -q, -hA, -hB, -some_]
        by_cases c3 : way < 7
        · rw [if_pos (by omega)]
          refine hA _ ?_
          clear hA hB hK
          refine seq_k fun K hK => ?_
          try simp (disch := first | assumption | omega | decide) only [wpA, wpB, wpC, wpD, *, -hK, -q, -some_]
          refine take_ok (many := 4) h1 (by decide) (by decide) (by omega) fun s2 m f2 h2 hm => ?_
          refine hK _ _ ?_
          clear hK
          try simp (disch := first | assumption | omega | decide) only [wpA, wpB, wpC, wpD, *, -q, -some_]
          refine some_ m (c + 1 + 1) s2 m _ (f1.trans f2) h2 (by omega) (by omega) (by omega) fun s3 l f3 h3 hl hll => ?_
          try simp (disch := first | assumption | omega | decide) only [wpA, wpB, wpC, wpD, *, -q, -some_]
          have hb := szs_bd hl (k := 3) (by omega)
          have := q _ (.row l) (f3.trans (Fr.app (t := [MO.lst (l.map foD)]))) (h3.fr0 .app) ⟨hb.2.2, by simp only [Fo.dep]; omega, by simp only [Fo.sz, szB]; omega⟩
          simp only [foD, foDs_map] at this
          exact this
        · rw [if_neg (by omega)]
          refine hB _ ?_
          clear hA hB
          try simp (disch := first | assumption | omega | decide) only [wpA, wpB, wpC, wpD, *, -hK, -q, -some_]
          refine hK _ _ ?_
          clear hK
          refine seq_k fun K hK => ?_
          try simp (disch := first | assumption | omega | decide) only [wpA, wpB, wpC, wpD, *, -hK, -q, -some_]
          refine take_ok (many := 3) h1 (by decide) (by decide) (by omega) fun s2 m f2 h2 hm => ?_
          have em : (1 : Int) + (m : Int) = ((m + 1 : Nat) : Int) := by omega
          try simp (disch := first | assumption | omega | decide) only [wpA, wpB, wpC, wpD, *, -hK, -q, -some_]
          refine hK _ _ ?_
          clear hK
          try simp (disch := first | assumption | omega | decide) only [wpA, wpB, wpC, wpD, *, -q, -some_]
          refine some_ (m + 1) (c + 1 + 1) s2 (m + 1) _ (f1.trans f2) h2 (by omega) (by omega) (by omega) fun s3 l f3 h3 hl hll => ?_
          try simp (disch := first | assumption | omega | decide) only [wpA, wpB, wpC, wpD, *, -q, -some_]
          have hb := szs_bd hl (k := 3) (by omega)
          have := q _ (.pick l) (f3.trans (Fr.app (t := [MO.lst (l.map foD)]))) (h3.fr0 .app) ⟨hb.2.2, by simp only [Fo.dep]; omega, by simp only [Fo.sz, szB]; omega⟩
          simp only [foD, foDs_map] at this
          exact this
      by_cases c3 : way < 5
      · rw [if_pos (by omega), if_neg (by omega)]; exact this
      · rw [if_neg (by omega)]; exact this
end
end Mid
namespace Mid
open PySem
noncomputable section
variable {s s' : Mst} {Q : Dv → Mst → Prop} {p w c : Nat}
/-! ### what repr shows of forms -/
theorem rc_low : ∀ k < 26, Builtin.Str.reprChar 39 (97 + k) = [97 + k] := by decide +kernel
theorem rt_low {x : Str} (h : LowS x) : reprText x = ⟨#[39] ++ x.cps ++ #[39]⟩ := by
  have hq : reprQuote x = 39 := by
    unfold reprQuote
    have : x.cps.contains 39 = false := by
      rw [Bool.eq_false_iff]
      intro z
      have := h.2.2 39 (by simpa using z)
      omega
    rw [this]; rfl
  unfold reprText
  rw [hq]
  have key : ∀ (l : List Nat) (acc : Array Nat), (∀ c ∈ l, 97 ≤ c ∧ c < 123) → l.foldl (fun out c => out ++ (Builtin.Str.reprChar 39 c).toArray) acc = acc ++ l.toArray := by
    intro l
    induction l with
    | nil => intro acc _; simp
    | cons a r ih =>
      intro acc hl
      rw [List.foldl_cons, ih _ fun c hc => hl c (by simp [hc])]
      have := hl a (by simp)
      have e := rc_low (a - 97) (by omega)
      rw [show 97 + (a - 97) = a by omega] at e
      rw [e]
      apply Array.toList_inj.mp
      simp
  rw [← Array.foldl_toList, key _ _ h.2.2]
  congr 1
def shOk (x : Str) (n : Nat) : Prop := PyData.strOk x = true ∧ x.length ≤ n
theorem shOk.le {x : Str} {n m : Nat} (h : shOk x n) (g : n ≤ m) : shOk x m := ⟨h.1, Nat.le_trans h.2 g⟩
theorem sh_app {x y : Str} {n m : Nat} (h : shOk x n) (g : shOk y m) : shOk (x ++ y) (n + m) := ⟨strOk_app h.1 g.1, by
  have : (x ++ y).length = x.length + y.length := Array.size_append
  rw [this]; have := h.2; have := g.2; omega⟩
theorem sh_low {x : Str} (h : LowS x) : shOk (reprText x) 8 := by
  rw [rt_low h]
  refine ⟨?_, ?_⟩
  · unfold PyData.strOk
    rw [Array.all_eq_true']
    intro z hz
    simp at hz
    rcases hz with rfl | hz | rfl
    · rfl
    · have := h.2.2 z (by simpa using hz)
      simp; omega
    · rfl
  · show (#[39] ++ x.cps ++ #[39]).size ≤ 8
    have : x.cps.size ≤ 6 := h.2.1
    simp; omega
theorem sh_lit {a : String} {n : Nat} (h : (Str.ofString a).length ≤ n) : shOk (Str.ofString a) n := ⟨strOk_lit, h⟩
theorem sh_join : ∀ {ts : List (Str × Nat)}, (∀ t ∈ ts, shOk t.1 t.2) → shOk (Str.join (Str.ofString ", ") (ts.map (·.1))) ((ts.map (·.2)).sum + 2 * ts.length)
  | [], _ => ⟨strOk_none, by show (Str.ofString "").length ≤ _; decide⟩
  | [a], h => ⟨(h a (by simp)).1, by have := (h a (by simp)).2; simp; show a.1.length ≤ _; omega⟩
  | a :: b :: r, h => by
    have e : Str.join (Str.ofString ", ") ((a :: b :: r).map (·.1)) = a.1 ++ Str.ofString ", " ++ Str.join (Str.ofString ", ") ((b :: r).map (·.1)) := rfl
    rw [e]
    refine (sh_app (sh_app (h a (by simp)) (sh_lit (a := ", ") (n := 2) (by decide))) (sh_join fun t ht => h t (by simp [ht]))).le ?_
    simp only [List.map_cons, List.sum_cons, List.length_cons]
    omega
theorem sh_tup {ts : List (Str × Nat)} (h : ∀ t ∈ ts, shOk t.1 t.2) : shOk (tupleText (ts.map (·.1))) ((ts.map (·.2)).sum + 2 * ts.length + 3) := by
  unfold tupleText
  refine (sh_app (sh_app (sh_lit (a := "(") (n := 1) (by decide)) (sh_join h)) (m := 2) ?_).le (by omega)
  split
  · exact sh_lit (a := ",)") (by decide)
  · exact sh_lit (a := ")") (by decide)
mutual
def foP : Fo → PyData
  | .sign x => .tuple [.str (Str.ofString "sign"), .str x]
  | .row l => .tuple [.str (Str.ofString "row"), .tuple (foPs l)]
  | .pick l => .tuple [.str (Str.ofString "pick"), .tuple (foPs l)]
  | .times p lo hi => .tuple [.str (Str.ofString "times"), foP p, .int (lo : Int), hiP hi]
def foPs : List Fo → List PyData
  | [] => []
  | f :: r => foP f :: foPs r
end
mutual
/-- how many pieces -/
def Fo.pcs : Fo → Nat
  | .sign _ => 1
  | .row l => 1 + Fo.pcsL l
  | .pick l => 1 + Fo.pcsL l
  | .times p _ _ => 1 + p.pcs
def Fo.pcsL : List Fo → Nat
  | [] => 0
  | f :: r => f.pcs + Fo.pcsL r
end
theorem sh_hi {hi : Option Nat} (h : ∀ k, hi = some k → k ≤ 12) : shOk (hiP hi).shown 4 ∧ (hiP hi).showable = true := by
  cases hi with
  | none => exact ⟨sh_lit (a := "None") (by decide), rfl⟩
  | some k =>
    have := h k rfl
    refine ⟨?_, ?_⟩
    · simp only [hiP, PyData.shown]
      have : k = 0 ∨ k = 1 ∨ k = 2 ∨ k = 3 ∨ k = 4 ∨ k = 5 ∨ k = 6 ∨ k = 7 ∨ k = 8 ∨ k = 9 ∨ k = 10 ∨ k = 11 ∨ k = 12 := by omega
      refine ⟨strOk_lit, ?_⟩
      rcases this with rfl | rfl | rfl | rfl | rfl | rfl | rfl | rfl | rfl | rfl | rfl | rfl | rfl <;> decide +kernel
    · simp only [hiP, PyData.showable]
      have : (k : Int).natAbs.log2 < 64 := log2_lt64 (by omega)
      simp; simp at this; omega
theorem Fo.pcs_pos : ∀ f : Fo, 1 ≤ f.pcs := fun f => by cases f <;> simp only [Fo.pcs] <;> omega
theorem shownAll_foPs : ∀ l : List Fo, PyData.shownAll (foPs l) = l.map fun f => (foP f).shown
  | [] => by simp only [foPs, PyData.shownAll, List.map_nil]
  | f :: r => by simp only [foPs, PyData.shownAll, List.map_cons, shownAll_foPs r]
theorem showableAll_foPs : ∀ l : List Fo, (∀ f ∈ l, (foP f).showable = true) → PyData.showableAll (foPs l) = true
  | [], _ => by simp only [foPs, PyData.showableAll]
  | f :: r, h => by simp only [foPs, PyData.showableAll, h f (by simp), showableAll_foPs r fun g hg => h g (by simp [hg]), Bool.and_self]
theorem foPs_of (l : List Fo) (h : ∀ f ∈ l, shOk (foP f).shown (60 * f.pcs - 2) ∧ (foP f).showable = true) : shOk (tupleText (PyData.shownAll (foPs l))) (60 * Fo.pcsL l + 3) ∧ PyData.showableAll (foPs l) = true := by
  refine ⟨?_, showableAll_foPs l fun f hf => (h f hf).2⟩
  rw [shownAll_foPs]
  have e : (l.map fun f => (foP f).shown) = (l.map fun f => ((foP f).shown, 60 * f.pcs - 2)).map (·.1) := by rw [List.map_map]; rfl
  rw [e]
  refine (sh_tup ?_).le ?_
  · intro t ht
    obtain ⟨f, hf, rfl⟩ := List.mem_map.mp ht
    exact (h f hf).1
  · rw [List.map_map, List.length_map]
    have : (l.map ((fun x : Str × Nat => x.2) ∘ fun f => ((foP f).shown, 60 * f.pcs - 2))).sum + 2 * l.length ≤ 60 * Fo.pcsL l := by
      clear h e
      induction l with
      | nil => simp
      | cons f r ih => have := Fo.pcs_pos f; simp only [List.map_cons, List.sum_cons, List.length_cons, Function.comp, Fo.pcsL] at *; omega
    omega
mutual
theorem foP_sh : ∀ f : Fo, f.ok → shOk (foP f).shown (60 * f.pcs - 2) ∧ (foP f).showable = true
  | .sign x, h => by
    simp only [Fo.ok] at h
    simp only [foP, PyData.shown, PyData.shownAll, PyData.showable, PyData.showableAll, Fo.pcs]
    refine ⟨(sh_tup (ts := [(reprText (Str.ofString "sign"), 8), (reprText x, 8)]) ?_).le (by simp), rfl⟩
    intro t ht
    simp at ht
    rcases ht with rfl | rfl
    · exact sh_low (by decide)
    · exact sh_low h
  | .row l, h => by
    simp only [Fo.ok] at h
    have ih := foPs_of l (foPs_sh l h)
    simp only [foP, PyData.shown, PyData.shownAll, PyData.showable, PyData.showableAll, Fo.pcs, ih.2, Bool.and_self, and_true]
    refine (sh_tup (ts := [(reprText (Str.ofString "row"), 8), (tupleText (PyData.shownAll (foPs l)), 60 * Fo.pcsL l + 3)]) ?_).le (by simp; omega)
    intro t ht
    simp at ht
    rcases ht with rfl | rfl
    · exact sh_low (by decide)
    · exact ih.1
  | .pick l, h => by
    simp only [Fo.ok] at h
    have ih := foPs_of l (foPs_sh l h)
    simp only [foP, PyData.shown, PyData.shownAll, PyData.showable, PyData.showableAll, Fo.pcs, ih.2, Bool.and_self, and_true]
    refine (sh_tup (ts := [(reprText (Str.ofString "pick"), 8), (tupleText (PyData.shownAll (foPs l)), 60 * Fo.pcsL l + 3)]) ?_).le (by simp; omega)
    intro t ht
    simp at ht
    rcases ht with rfl | rfl
    · exact sh_low (by decide)
    · exact ih.1
  | .times p lo hi, h => by
    simp only [Fo.ok] at h
    have ih := foP_sh p h.1
    have h2 := sh_hi (hi := hi) fun k e => (h.2.2 k e).2.2
    have h3 := sh_hi (hi := some lo) fun k e => by cases e; exact h.2.1
    simp only [hiP] at h3
    have hp := Fo.pcs_pos p
    simp only [foP, PyData.shown, PyData.shownAll, PyData.showable, PyData.showableAll, Fo.pcs, ih.2, h2.2, Bool.and_self, and_true, Bool.true_and, Bool.and_true]
    refine ⟨(sh_tup (ts := [(reprText (Str.ofString "times"), 8), ((foP p).shown, 60 * p.pcs - 2), ((PyData.int (lo : Int)).shown, 4), ((hiP hi).shown, 4)]) ?_).le (by simp; omega), ?_⟩
    · intro t ht
      simp at ht
      rcases ht with rfl | rfl | rfl | rfl
      · exact sh_low (by decide)
      · exact ih.1
      · exact h3.1
      · exact h2.1
    · have := h3.2
      simp only [PyData.showable] at this
      exact this
theorem foPs_sh : ∀ l : List Fo, Fo.oksL l → ∀ f ∈ l, shOk (foP f).shown (60 * f.pcs - 2) ∧ (foP f).showable = true
  | [], _, f, hf => by simp at hf
  | g :: r, h, f, hf => by
    simp only [Fo.oksL] at h
    have h1 := foP_sh g h.1
    have h2 := foPs_sh r h.2
    rcases List.mem_cons.mp hf with e | hf
    · rw [e]; exact h1
    · exact h2 f hf
end
mutual
theorem foP_noDict : ∀ f : Fo, (foP f).hasDict = false ∧ (foP f).depth ≤ 2 * f.dep
  | .sign x => by simp [foP, PyData.hasDict, PyData.hasDictAll, PyData.depth, PyData.depthAll, Fo.dep]
  | .row l => by
    have := foPs_noDict l
    simp only [foP, PyData.hasDict, PyData.hasDictAll, PyData.depth, PyData.depthAll, Fo.dep, this.1, Bool.or_self, true_and]
    omega
  | .pick l => by
    have := foPs_noDict l
    simp only [foP, PyData.hasDict, PyData.hasDictAll, PyData.depth, PyData.depthAll, Fo.dep, this.1, Bool.or_self, true_and]
    omega
  | .times p lo hi => by
    have := foP_noDict p
    have h : (hiP hi).hasDict = false ∧ (hiP hi).depth = 0 := by cases hi <;> simp [hiP, PyData.hasDict, PyData.depth]
    simp only [foP, PyData.hasDict, PyData.hasDictAll, PyData.depth, PyData.depthAll, Fo.dep, this.1, h.1, h.2, Bool.or_self, true_and]
    omega
theorem foPs_noDict : ∀ l : List Fo, PyData.hasDictAll (foPs l) = false ∧ PyData.depthAll (foPs l) ≤ 2 * Fo.deps l
  | [] => by simp [foPs, PyData.hasDictAll, PyData.depthAll]
  | f :: r => by
    have := foP_noDict f
    have := foPs_noDict r
    simp only [foPs, PyData.hasDictAll, PyData.depthAll, Fo.deps]
    simp_all
    omega
end
mutual
theorem foD_dat (s : Mst) : ∀ (f : Fo) (n : Nat), 2 * f.dep < n → dat s n (foD f) = some (foP f)
  | .sign x, n, h => by
    simp only [Fo.dep] at h
    obtain ⟨n, rfl⟩ : ∃ k, n = k + 2 := ⟨n - 2, by omega⟩
    simp [foD, foP, dat, datA]
  | .row l, n, h => by
    simp only [Fo.dep] at h
    obtain ⟨n, rfl⟩ : ∃ k, n = k + 2 := ⟨n - 2, by omega⟩
    simp [foD, foP, dat, datA, foDs_dat s l n (by omega)]
  | .pick l, n, h => by
    simp only [Fo.dep] at h
    obtain ⟨n, rfl⟩ : ∃ k, n = k + 2 := ⟨n - 2, by omega⟩
    simp [foD, foP, dat, datA, foDs_dat s l n (by omega)]
  | .times p lo hi, n, h => by
    simp only [Fo.dep] at h
    obtain ⟨n, rfl⟩ : ∃ k, n = k + 2 := ⟨n - 2, by omega⟩
    have h2 : dat s (n + 1) (hiD hi) = some (hiP hi) := by cases hi <;> simp [dat, hiD, hiP]
    simp only [foD, foP]
    rw [show dat s (n + 2) (.tup [.str (Str.ofString "times"), foD p, .int (lo : Int), hiD hi]) = (datA (dat s (n + 1)) [.str (Str.ofString "times"), foD p, .int (lo : Int), hiD hi]).map .tuple from rfl]
    simp only [datA, foD_dat s p (n + 1) (by omega), h2]
    simp [dat]
theorem foDs_dat (s : Mst) : ∀ (l : List Fo) (n : Nat), 2 * Fo.deps l < n → datA (dat s n) (foDs l) = some (foPs l)
  | [], n, _ => by simp [foDs, foPs, datA]
  | f :: r, n, h => by
    simp only [Fo.deps] at h
    simp [foDs, foPs, datA, foD_dat s f n (by omega), foDs_dat s r n (by omega)]
end
/-- repr of a form -/
theorem repr_form {f : Fo} (hok : f.ok) (hd : f.dep ≤ 340) (hp : f.pcs ≤ 200000) : bRepr [foD f] s = .ok (.str (foP f).shown) s := by
  have h1 := foD_dat s f 1500 (by omega)
  have h2 := foP_sh f hok
  have h3 := foP_noDict f
  unfold bRepr f1
  simp only [h1]
  obtain ⟨l, el⟩ : ∃ l, foD f = .tup l := by cases f <;> (simp only [foD]; exact ⟨_, rfl⟩)
  rw [el]
  simp only
  rw [if_pos]
  exact ⟨h2.2, h3.1, by omega, by have := h2.1.2; omega⟩
/-- repr of ("told", a form) -/
theorem repr_told {f : Fo} (hok : f.ok) (hd : f.dep ≤ 340) (hp : f.pcs ≤ 200000) : ∃ x, PyData.strOk x = true ∧ ∀ s, bRepr [.tup [.str (Str.ofString "told"), foD f]] s = .ok (.str x) s := by
  have h2 := foP_sh f hok
  have h3 := foP_noDict f
  have hs : shOk (PyData.tuple [.str (Str.ofString "told"), foP f]).shown (60 * f.pcs + 20) := by
    simp only [PyData.shown, PyData.shownAll]
    refine (sh_tup (ts := [(reprText (Str.ofString "told"), 8), ((foP f).shown, 60 * f.pcs - 2)]) ?_).le (by simp; omega)
    intro t ht
    simp at ht
    rcases ht with rfl | rfl
    · exact sh_low (by decide)
    · exact h2.1
  refine ⟨_, hs.1, fun s => ?_⟩
  have h1 := foD_dat s f 1499 (by omega)
  have h4 : dat s 1500 (.tup [.str (Str.ofString "told"), foD f]) = some (.tuple [.str (Str.ofString "told"), foP f]) := by
    show (datA (dat s 1499) [.str (Str.ofString "told"), foD f]).map PyData.tuple = _
    simp only [datA, h1]
    rfl
  unfold bRepr f1
  simp only [h4]
  rw [if_pos]
  refine ⟨?_, ?_, ?_, ?_⟩
  · simp only [PyData.showable, PyData.showableAll, h2.2]; rfl
  · simp only [PyData.hasDict, PyData.hasDictAll, h3.1]; rfl
  · simp only [PyData.depth, PyData.depthAll]; omega
  · have := hs.2; omega
theorem repr_many : ∃ x, PyData.strOk x = true ∧ ∀ s, bRepr [.tup [.str (Str.ofString "many"), .int 300]] s = .ok (.str x) s := by
  have hs : shOk (PyData.tuple [.str (Str.ofString "many"), .int 300]).shown 100 := by
    simp only [PyData.shown, PyData.shownAll]
    refine (sh_tup (ts := [(reprText (Str.ofString "many"), 8), (((toString (300 : Int)) : Str), 4)]) ?_).le (by simp)
    intro t ht
    simp at ht
    rcases ht with rfl | rfl
    · exact sh_low (by decide)
    · exact sh_lit (by decide +kernel)
  refine ⟨_, hs.1, fun s => ?_⟩
  have h4 : dat s 1500 (.tup [.str (Str.ofString "many"), .int 300]) = some (.tuple [.str (Str.ofString "many"), .int 300]) := rfl
  unfold bRepr f1
  simp only [h4]
  rw [if_pos]
  refine ⟨?_, ?_, ?_, ?_⟩
  · have : (300 : Int).natAbs.log2 < 64 := log2_lt64 (by decide)
    simp only [PyData.showable, PyData.showableAll, Bool.true_and, Bool.and_true, decide_eq_true_eq]; omega
  · simp only [PyData.hasDict, PyData.hasDictAll]; rfl
  · simp [PyData.depth, PyData.depthAll]
  · have := hs.2; omega
end
end Mid
namespace Mid
open PySem
noncomputable section
variable {s s' : Mst} {Q : Dv → Mst → Prop} {p w c : Nat}
mutual
theorem Fo.pcs_le : ∀ f : Fo, f.ok → f.pcs ≤ f.dep * f.sz
  | .sign _, _ => by simp [Fo.pcs, Fo.dep, Fo.sz]
  | .row l, h => by
    simp only [Fo.ok] at h
    have ih := Fo.pcsL_le l h
    simp only [Fo.pcs, Fo.dep, Fo.sz]
    rw [Nat.mul_add, Nat.add_mul, Nat.add_mul]
    omega
  | .pick l, h => by
    simp only [Fo.ok] at h
    have ih := Fo.pcsL_le l h
    simp only [Fo.pcs, Fo.dep, Fo.sz]
    rw [Nat.mul_add, Nat.add_mul, Nat.add_mul]
    omega
  | .times p lo hi, h => by
    have ih := Fo.pcs_le p h.1
    have h1 := (Fo.parts_bd (.times p lo hi) h p (by simp [Fo.parts])).2.2
    have h2 := Fo.sz_pos _ h
    simp only [Fo.pcs, Fo.dep]
    have : p.dep * p.sz ≤ p.dep * (Fo.times p lo hi).sz := Nat.mul_le_mul_left _ h1
    rw [Nat.add_mul]
    omega
theorem Fo.pcsL_le : ∀ l : List Fo, Fo.oksL l → Fo.pcsL l ≤ Fo.deps l * Fo.szs l
  | [], _ => by simp [Fo.pcsL]
  | f :: r, h => by
    simp only [Fo.oksL] at h
    have h1 := Fo.pcs_le f h.1
    have h2 := Fo.pcsL_le r h.2
    simp only [Fo.pcsL, Fo.deps, Fo.szs]
    have h3 : f.dep * f.sz ≤ max f.dep (Fo.deps r) * f.sz := Nat.mul_le_mul_right _ (by omega)
    have h4 : Fo.deps r * Fo.szs r ≤ max f.dep (Fo.deps r) * Fo.szs r := Nat.mul_le_mul_right _ (by omega)
    rw [Nat.mul_add]
    omega
end
mutual
theorem Fo.dep_pcs : ∀ f : Fo, f.dep ≤ f.pcs
  | .sign _ => by simp [Fo.pcs, Fo.dep]
  | .row l => by have := Fo.deps_pcs l; simp only [Fo.pcs, Fo.dep]; omega
  | .pick l => by have := Fo.deps_pcs l; simp only [Fo.pcs, Fo.dep]; omega
  | .times p _ _ => by have := Fo.dep_pcs p; simp only [Fo.pcs, Fo.dep]; omega
theorem Fo.deps_pcs : ∀ l : List Fo, Fo.deps l ≤ Fo.pcsL l
  | [] => by simp [Fo.deps]
  | f :: r => by have := Fo.dep_pcs f; have := Fo.deps_pcs r; simp only [Fo.pcsL, Fo.deps]; omega
end
theorem pcsL_app : ∀ l m : List Fo, Fo.pcsL (l ++ m) = Fo.pcsL l + Fo.pcsL m
  | [], m => by simp [Fo.pcsL]
  | f :: r, m => by simp only [List.cons_append, Fo.pcsL, pcsL_app r m]; omega
theorem pcsL_repl (q : Fo) : ∀ k, Fo.pcsL (List.replicate k q) = k * q.pcs
  | 0 => by simp [Fo.pcsL]
  | k + 1 => by simp only [List.replicate_succ, Fo.pcsL, pcsL_repl q k, Nat.succ_mul]; omega
theorem pcs_rowOf (l : List Fo) (h : l ≠ []) : (rowOf l).pcs = Fo.pcsL l + b2n (l.length > 1) := by
  match l with
  | [f] => simp [rowOf, Fo.pcsL, b2n]
  | f :: g :: r => simp [rowOf, Fo.pcs, Fo.pcsL, b2n]; omega
theorem pcs_tlF (q : Fo) : ∀ k, Fo.pcsL (tlF q k) = tlN q.pcs k
  | 0 => rfl
  | k + 1 => by
    have ih := pcs_tlF q k
    simp only [tlF, tlN, Fo.pcsL, Fo.pcs]
    rw [pcs_rowOf _ (by simp)]
    simp only [Fo.pcsL, ih]
    have : b2n ((q :: tlF q k).length > 1) = b2n (0 < tlN q.pcs k) := by
      cases k with
      | zero => simp [tlF, tlN, b2n]
      | succ k =>
        have : 0 < tlN q.pcs (k + 1) := by simp only [tlN]; omega
        simp [tlF, b2n, this]
    rw [this]; omega
mutual
theorem pcs_opn : ∀ f : Fo, f.ok → f.opn.pcs = f.sz
  | .sign _, _ => by simp [Fo.opn, Fo.pcs, Fo.sz]
  | .row l, h => by
    simp only [Fo.ok] at h
    simp only [Fo.opn, Fo.pcs, Fo.sz, pcs_opns l h]
  | .pick l, h => by
    simp only [Fo.ok] at h
    simp only [Fo.opn, Fo.pcs, Fo.sz, pcs_opns l h]
  | .times p lo hi, h => by
    have ih := pcs_opn p h.1
    have ho : oks lo hi := h.2
    simp only [Fo.opn, Fo.sz, opT]
    by_cases hpl : isPl lo hi = true
    · rw [if_pos hpl, if_pos hpl]; simp only [Fo.pcs, ih]
    · rw [if_neg hpl, if_neg hpl]
      cases hi with
      | none =>
        have h2 := pl_two hpl
        obtain ⟨k, rfl⟩ : ∃ k, lo = k + 1 := ⟨lo - 1, by omega⟩
        simp only [Fo.pcs, pcsL_app, pcsL_repl, Fo.pcsL, ih, Nat.add_sub_cancel, Nat.succ_mul]
        omega
      | some h' =>
        have h2 := ho.2 h' rfl
        obtain ⟨m, rfl⟩ : ∃ m, h' = lo + m := ⟨h' - lo, by omega⟩
        have e1 : (tlF p.opn m).length = b2n (0 < m) := by cases m <;> simp [tlF, b2n]
        rw [pcs_rowOf]
        · simp only [Nat.add_sub_cancel_left, pcsL_app, pcsL_repl, pcs_tlF, ih, List.length_append, List.length_replicate, e1]
          rw [tlN_eq]
        · intro z
          have := congrArg List.length z
          simp only [Nat.add_sub_cancel_left, List.length_append, List.length_replicate, e1, b2n, List.length_nil] at this
          split at this <;> omega
theorem pcs_opns : ∀ l : List Fo, Fo.oksL l → Fo.pcsL (Fo.opns l) = Fo.szs l
  | [], _ => by simp [Fo.opns, Fo.pcsL, Fo.szs]
  | f :: r, h => by
    simp only [Fo.oksL] at h
    simp only [Fo.opns, Fo.pcsL, Fo.szs, pcs_opn f h.1, pcs_opns r h.2]
end
theorem ok_rowOf (l : List Fo) (h : ∀ f ∈ l, f.ok) : (rowOf l).ok := by
  match l with
  | [f] => exact h f (by simp)
  | [] => exact Fo.oksL_iff.mpr (by simp)
  | f :: g :: r => exact Fo.oksL_iff.mpr h
theorem ok_tlF (q : Fo) (h : q.ok) : ∀ k, ∀ f ∈ tlF q k, f.ok
  | 0, f, hf => by simp [tlF] at hf
  | k + 1, f, hf => by
    simp only [tlF, List.mem_singleton] at hf
    subst hf
    refine ⟨ok_rowOf _ fun g hg => ?_, by decide, by simp⟩
    rcases List.mem_cons.mp hg with e | hg
    · rw [e]; exact h
    · exact ok_tlF q h k g hg
mutual
theorem ok_opn : ∀ f : Fo, f.ok → f.opn.ok
  | .sign _, h => h
  | .row l, h => by
    simp only [Fo.opn, Fo.ok] at *
    exact ok_opns l h
  | .pick l, h => by
    simp only [Fo.opn, Fo.ok] at *
    exact ok_opns l h
  | .times p lo hi, h => by
    have ih := ok_opn p h.1
    simp only [Fo.opn, opT]
    split
    · exact ⟨ih, h.2⟩
    · cases hi with
      | none =>
        refine Fo.oksL_iff.mpr fun f hf => ?_
        rcases List.mem_append.mp hf with hf | hf
        · rw [(List.mem_replicate.mp hf).2]; exact ih
        · simp at hf; rw [hf]; exact ⟨ih, by decide, by simp⟩
      | some h' =>
        refine ok_rowOf _ fun f hf => ?_
        rcases List.mem_append.mp hf with hf | hf
        · rw [(List.mem_replicate.mp hf).2]; exact ih
        · exact ok_tlF _ ih _ f hf
theorem ok_opns : ∀ l : List Fo, Fo.oksL l → Fo.oksL (Fo.opns l)
  | [], _ => trivial
  | f :: r, h => ⟨ok_opn f h.1, ok_opns r h.2⟩
end
theorem times_sz (f : Fo) {lo : Nat} {hi : Option Nat} (ho : oks lo hi) : (Fo.times f lo hi).sz ≤ 12 * f.sz + 24 := by
  have h1 := ho.1
  have h2 : lo * f.sz ≤ 12 * f.sz := Nat.mul_le_mul_right _ h1
  simp only [Fo.sz]
  split
  · omega
  · cases hi with
    | none => simp only; omega
    | some h =>
      have h3 := ho.2 h rfl
      obtain ⟨m, rfl⟩ : ∃ m, h = lo + m := ⟨h - lo, by omega⟩
      simp only [Nat.add_sub_cancel_left]
      have h4 : lo * f.sz + m * (f.sz + 2) ≤ 12 * (f.sz + 2) := by
        have : (lo + m) * (f.sz + 2) ≤ 12 * (f.sz + 2) := Nat.mul_le_mul_right _ (by omega)
        have e : (lo + m) * (f.sz + 2) = lo * f.sz + lo * 2 + m * (f.sz + 2) := by rw [Nat.add_mul, Nat.mul_add]
        omega
      unfold b2n
      repeat' split
      all_goals omega
/-! ### what opened tells, or how it is refused -/
theorem isE_eq {a d ks l b} {σ : Men} {i : Nat} (h : σ[i]? = some (some (.fix a d ks l))) {Q : Dv → Mst → Prop} : (mIsE i a d (some b) σ s).to Q = Q (.bl b) s := by
  unfold mIsE; rw [h]; simp
theorem opened_er {f : Fo} (hd : f.dep ≤ 12) (hok : f.ok) (hz : f.sz < 1000000) (h : 300 < f.sz) : ∃ s', f_opened [foD f] s = .er ⟨2, some [("most", .int 300)]⟩ s' ∧ Fr [] s s' := by
  obtain ⟨d, s', e, e2, fr⟩ := to_ex (pieces_opened_ok 12 f hd hok hz s (fun d s' => d = .int (f.sz : Nat) ∧ Fr [] s s') fun s' f => ⟨rfl, f⟩)
  subst e2
  refine ⟨s', ?_, fr⟩
  have e3 : noE (f_pieces_opened 12) [foD f] s = .ok (.int (f.sz : Nat)) s' := noE_ok e
  have hsm : smallI (.int 300) = true := by
    have : (300 : Int).natAbs.log2 < 64 := log2_lt64 (by decide)
    exact @decide_eq_true _ (Classical.propDecidable _) ⟨by omega, by decide +kernel⟩
  have hgt : decide ((300 : Int) < (f.sz : Nat)) = true := by rw [decide_eq_true_eq]; omega
  unfold f_opened mFun
  rw [if_pos (show [foD f].length = 1 from rfl)]
  have : m_opened (mStart 1 [foD f]) s = .er ⟨2, some [("most", .int 300)]⟩ (mStart 1 [foD f]) s' := by
    unfold m_opened msSeq msIf mtVal mOp mCall
    show (((((mArgs [mVar 0] (mStart 1 [foD f]) s).bind (noE (f_pieces_opened 12))).bind _).bind _).st _ _).andThen _ = _
    have e4 : mArgs [mVar 0] (mStart 1 [foD f]) s = .ok [foD f] s := rfl
    rw [e4, Rm.bind_ok, e3, Rm.bind_ok]
    show (((oGt (.int (f.sz : Nat)) (.int 300) s').bind _).st _ _).andThen _ = _
    rw [oGt_int, Rm.bind_ok, Rm.st_ok, hgt]
    show (msRaiseI 2 "most" smallI (mC (Dv.int 300)) (mStart 1 [foD f]) s').andThen _ = _
    unfold msRaiseI
    show (if smallI (.int 300) = true then _ else _ : Sm).andThen _ = _
    rw [hsm, if_pos rfl, Sm.andThen_er]
  rw [this]
theorem opened_ok {f : Fo} (hd : f.dep ≤ 12) (hok : f.ok) (hz : f.sz ≤ 300) (q : ∀ s', Fr [] s s' → Q (foD f.opn) s') : (f_opened [foD f] s).to Q := by
  unfold f_opened
  refine fun_at [some (foD f)] rfl rfl ?_
  unfold m_opened
  refine seq_k fun K hK => ?_
  refine if_k fun KA KB hA hB => ?_
  try simp (disch := first | assumption | omega | decide) only [wpA, wpB, wpC, wpD, *, -q, -hK, -hA, -hB]
  refine pieces_opened_ok 12 f hd hok (by omega) s _ fun s1 f1 => ?_
  try simp (disch := first | assumption | omega | decide) only [wpA, wpB, wpC, wpD, *, -q, -hK, -hA, -hB]
  rw [if_neg (by omega)]
  refine hB _ ?_
  clear hA hB
  try simp (disch := first | assumption | omega | decide) only [wpA, wpB, wpC, wpD, *, -q, -hK]
  refine hK _ _ ?_
  clear hK
  try simp (disch := first | assumption | omega | decide) only [wpA, wpB, wpC, wpD, *, -q]
  exact opened_inside_ok 12 f hd hok (by omega) s1 _ fun s2 f2 => q s2 (f1.trans f2)
theorem try_to {i : Nat} {b : MS} {hit : Nat → Option Bool} {h : Nat → Option Nat → Nat → MS} {σ : Men} {N : Men → Mst → Prop} {R : Dv → Mst → Prop} {C B : Men → Mst → Prop} (hb : (b σ s).to N R C B) : (tryAs i b hit h σ s).to N R C B := by
  unfold tryAs
  cases e : b σ s with
  | er z σ1 s1 => rw [e] at hb; exact hb.elim
  | nx σ1 s1 => rw [e] at hb; exact hb
  | ct σ1 s1 => rw [e] at hb; exact hb
  | bk σ1 s1 => rw [e] at hb; exact hb
  | rt d s1 => rw [e] at hb; exact hb
  | bad => rw [e] at hb; exact hb.elim
/-- an exception of the class cl, with a field, taken -/
theorem try_er {i : Nat} {b : MS} {hit : Nat → Option Bool} {h : Nat → Option Nat → Nat → MS} {σ σ1 σ2 : Men} {s1 s2 : Mst} {cl : Nat} {fs : List (Str × Dv)} {N : Men → Mst → Prop} {R : Dv → Mst → Prop} {C B : Men → Mst → Prop} (hb : b σ s = .er ⟨cl, some fs⟩ σ1 s1) (hh : hit cl = some true)
    (hs : ∀ a d, (h a (some d) cl (σ1.set i (some (.fix a (some d) (fs.map (·.1)) (fs.map (·.2))))) s1).to (fun σ' s' => σ'.set i none = σ2 ∧ s' = s2) (fun _ _ => False) (fun _ _ => False) (fun _ _ => False)) (q : N σ2 s2) : (tryAs i b hit h σ s).to N R C B := by
  have key : ∀ a d, (h a (some d) cl (σ1.set i (some (.fix a (some d) (fs.map (·.1)) (fs.map (·.2))))) s1).clr i = .nx σ2 s2 := by
    intro a d
    have := hs a d
    cases e : h a (some d) cl (σ1.set i (some (.fix a (some d) (fs.map (·.1)) (fs.map (·.2))))) s1 with
    | nx σ' s' => rw [e] at this; obtain ⟨h1, h2⟩ := this; subst h2; show Sm.nx (σ'.set i none) s' = _; rw [h1]
    | er z σ' s' => rw [e] at this; exact this.elim
    | ct σ' s' => rw [e] at this; exact this.elim
    | bk σ' s' => rw [e] at this; exact this.elim
    | rt d s' => rw [e] at this; exact this.elim
    | bad => rw [e] at this; exact this.elim
  unfold tryAs
  rw [hb]
  simp only [hh]
  rw [if_pos]
  · show ((h 0 (some 0) cl (σ1.set i (some (.fix 0 (some 0) (fs.map (·.1)) (fs.map (·.2))))) s1).clr i).to N R C B
    rw [key]; exact q
  · intro a dd hdd
    cases dd with
    | none => simp at hdd
    | some d => exact (key a d).trans (key 0 0).symm
def toldD (f : Fo) : Dv := if f.sz ≤ 300 then .tup [.str (Str.ofString "told"), foD f.opn] else .tup [.str (Str.ofString "many"), .int 300]
theorem told_ok {f : Fo} (hd : f.dep ≤ 12) (hok : f.ok) (hz : f.sz < 1000000) (q : ∀ s', Fr [] s s' → Q (toldD f) s') : (f_law_e_told_opened [foD f] s).to Q := by
  unfold f_law_e_told_opened
  refine fun_at [some (foD f), none, none, none] rfl rfl ?_
  unfold m_law_e_told_opened
  unfold toldD at q
  refine seq_k fun K hK => ?_
  try simp (disch := first | assumption | omega | decide) only [wpA, wpB, wpC, wpD, *, -q, -hK]
  refine hK _ _ ?_
  clear hK
  refine seq_k fun K hK => ?_
  by_cases h : f.sz ≤ 300
  · rw [if_pos h] at q
    refine try_to ?_
    try simp (disch := first | assumption | omega | decide) only [wpA, wpB, wpC, wpD, *, -q, -hK]
    refine opened_ok hd hok h fun s1 f1 => ?_
    try simp (disch := first | assumption | omega | decide) only [wpA, wpB, wpC, wpD, *, -q, -hK]
    refine hK _ _ ?_
    try simp (disch := first | assumption | omega | decide) only [wpA, wpB, wpC, wpD, *, -q]
    exact q s1 f1
  · rw [if_neg h] at q
    obtain ⟨s1, e1, f1⟩ := opened_er (s := s) hd hok hz (by omega)
    refine try_er (σ1 := [some (foD f), some (Dv.tup [Dv.str (Str.ofString "odd"), Dv.non]), none, none]) (σ2 := [some (foD f), some (.tup [.str (Str.ofString "many"), .int 300]), none, some (.loc s1.length)]) (s1 := s1) (s2 := s1 ++ [.lst [.bl false, .bl false]]) (cl := 2) (fs := [("most", .int 300)]) ?_ rfl ?_ ?_
    · unfold msSet mTup
      have : mArgs [mC (Dv.str (Str.ofString "told")), mCall f_opened [mVar 0]] [some (foD f), some (Dv.tup [Dv.str (Str.ofString "odd"), Dv.non]), none, none] s = .er ⟨2, some [("most", .int 300)]⟩ s1 := by
        simp only [mArgs, mC_eq, Rm.bind_ok, mCall, v0, e1, Rm.bind_er]
      rw [this]; rfl
    · intro a d
      simp only [setS, set0]
      refine seq_k fun K1 hK1 => ?_
      have i0 : ∀ {Q : Dv → Mst → Prop} {o : Option Dv}, (mIsE 2 a (some d) (tb_law_e_told_opened_0 2) [some (foD f), some (Dv.tup [Dv.str (Str.ofString "odd"), Dv.non]), some (Dv.fix a (some d) (List.map (fun x => x.fst) [(("most" : Str), Dv.int 300)]) (List.map (fun x => x.snd) [(("most" : Str), Dv.int 300)])), o] s1).to Q = Q (.bl false) s1 := isE_eq rfl
      have i1 : ∀ {Q : Dv → Mst → Prop} {o : Option Dv}, (mIsE 2 a (some d) (tb_law_e_told_opened_1 2) [some (foD f), some (Dv.tup [Dv.str (Str.ofString "odd"), Dv.non]), some (Dv.fix a (some d) (List.map (fun x => x.fst) [(("most" : Str), Dv.int 300)]) (List.map (fun x => x.snd) [(("most" : Str), Dv.int 300)])), o] s1).to Q = Q (.bl true) s1 := isE_eq rfl
      try simp (disch := first | assumption | omega | decide) only [wpA, wpB, wpC, wpD, *, -q, -hK, -hK1]
      refine hK1 _ _ ?_
      clear hK1
      have i2 : ∀ {Q : Dv → Mst → Prop} {o : Option Dv} {s1 : Mst}, (mIsE 2 a (some d) (tb_law_e_told_opened_2 2) [some (foD f), some (Dv.tup [Dv.str (Str.ofString "odd"), Dv.non]), some (Dv.fix a (some d) (List.map (fun x => x.fst) [(("most" : Str), Dv.int 300)]) (List.map (fun x => x.snd) [(("most" : Str), Dv.int 300)])), o] s1).to Q = Q (.bl true) s1 := isE_eq rfl
      have hni : oNotIn (.bl true) (.loc s1.length) (s1 ++ [MO.lst [.bl false, .bl false]]) = .ok (.bl true) (s1 ++ [MO.lst [.bl false, .bl false]]) := by
        unfold oNotIn inQ
        simp only [look_new0, List.getElem?_cons_zero]
        rfl
      refine if_k fun KA KB hA hB => ?_
      try simp (disch := first | assumption | omega | decide) only [wpA, wpB, wpC, wpD, *, -q, -hK, -hA, -hB]
      refine hA _ ?_
      clear hA hB
      have ex : ∀ {Q : Dv → Mst → Prop} {o : Option Dv} {s1 : Mst}, (mXf 2 a (some d) 2 2 "most" [some (foD f), some (Dv.tup [Dv.str (Str.ofString "odd"), Dv.non]), some (Dv.fix a (some d) (List.map (fun x => x.fst) [(("most" : Str), Dv.int 300)]) (List.map (fun x => x.snd) [(("most" : Str), Dv.int 300)])), o] s1).to Q = Q (.int 300) s1 := by
        intro Q o s1
        unfold mXf
        simp
      try simp (disch := first | assumption | omega | decide) only [wpA, wpB, wpC, wpD, *, -q, -hK]
    · refine hK _ _ ?_
      clear hK
      try simp (disch := first | assumption | omega | decide) only [wpA, wpB, wpC, wpD, *, -q]
      exact q _ (f1.trans .app)
end
end Mid
namespace Mid
open PySem
noncomputable section
variable {s s' : Mst} {Q : Dv → Mst → Prop} {p w c : Nat}
theorem max2_e {i j : Int} : bMax2 [.int i, .int j] s = .ok (.int (if j > i then j else i)) s := id rfl
theorem min2_e {i j : Int} : bMin2 [.int i, .int j] s = .ok (.int (if j < i then j else i)) s := id rfl
theorem sg_first {sg : List Str} (h : sg ≠ []) : ∃ x ∈ sg, atQ (sg.map Dv.str) 0 = some (.str x) := by
  cases sg with
  | nil => exact absurd rfl h
  | cons a r => exact ⟨a, by simp, atQ_0⟩
theorem sg_last {sg : List Str} (h : sg ≠ []) : ∃ x ∈ sg, atQ (sg.map Dv.str) (-1) = some (.str x) := by
  have hl : sg.length - 1 < sg.length := by have := List.length_pos_iff.mpr h; omega
  refine ⟨sg[sg.length - 1], by simp, atQ_last ?_⟩
  rw [List.getElem?_map, List.length_map, List.getElem?_eq_getElem hl]; rfl
/-- what is told of a form with times around it -/
structure GrE (f : Fo) (d z : Nat) : Prop where
  ok : f.ok
  dep : f.dep ≤ d
  sz : f.sz ≤ z
def gzB : Nat → Nat
  | 0 => 41
  | i + 1 => 12 * gzB i + 26
def bigL : List (Nat × Option Nat) := [(0, some 3), (1, some 4), (3, none), (2, some 5), (0, some 12), (1, some 12), (1, some 1)]
theorem bigL_D : bigL.map (fun b => Dv.tup [.int (b.1 : Nat), hiD b.2]) = [.tup [.int 0, .int 3], .tup [.int 1, .int 4], .tup [.int 3, .non], .tup [.int 2, .int 5], .tup [.int 0, .int 12], .tup [.int 1, .int 12], .tup [.int 1, .int 1]] := rfl
theorem bigL_ok : ∀ b ∈ bigL, oks b.1 b.2 := by
  intro b hb
  simp only [bigL, List.mem_cons, List.not_mem_nil, or_false] at hb
  rcases hb with rfl | rfl | rfl | rfl | rfl | rfl | rfl <;> exact ⟨by decide, by simp⟩
theorem great_ok {sn : Nat} {sg : List Str} (h : PenE p w c s) (hs : SgE s sn sg) (hp : sn ≠ p) (hw : sn ≠ w) (hc : c < 10000000)
    (q : ∀ s' f, Fr [p] s s' → PenE p w (c + 100) s' → GrE f 10 10000 → Q (foD f) s') : (f_law_e_great [.loc p, .loc sn] s).to Q := by
  unfold f_law_e_great
  refine fun_at [some (.loc p), some (.loc sn), none, none, none, none, none] rfl rfl ?_
  unfold m_law_e_great
  refine seq_k fun K hK => ?_
  try simp (disch := first | assumption | omega | decide) only [wpA, wpB, wpC, wpD, *, -q, -hK]
  refine form_ok 12 2 1 c s _ sn sg (by decide) h hs hp hw (by simp only [tkB]; omega) fun s1 f f1 h1 hf => hK _ _ ?_
  clear hK
  simp only [tkB] at h1
  have hs1 := hs.fr f1 (by simpa using hp)
  refine seq_k fun K hK => ?_
  try simp (disch := first | assumption | omega | decide) only [wpA, wpB, wpC, wpD, *, -q, -hK]
  refine take_ok (many := 3) h1 (by decide) (by decide) (by omega) fun s2 m f2 h2 hm => ?_
  have hs2 := hs1.fr f2 (by simpa using hp)
  try simp (disch := first | assumption | omega | decide) only [wpA, wpB, wpC, wpD, *, -q, -hK]
  refine for_by (fun i σ s3 => Fr [p] s s3 ∧ PenE p w (c + 35 + 5 * i) s3 ∧ ∃ f x3 x4 x5 x6, σ = [some (.loc p), some (.loc sn), some (foD f), x3, x4, x5, x6] ∧ GrE f (3 + 2 * i) (gzB i)) ⟨f1.trans f2, h2.le (by omega), f, none, none, none, none, rfl, hf.ok, hf.dep, hf.sz⟩ (fun _ _ _ _ => trivial) ?_ ?_
  · rintro i x σ s3 hx ⟨f3, h3, g, x3, x4, x5, x6, rfl, hg⟩
    have hi : i < m := by have := (List.getElem?_eq_some_iff.mp hx).1; simpa [rngI_len] using this
    simp only [w_gN, setS, set0]
    clear hK q
    refine seq_k fun K hK => ?_
    try simp (disch := first | assumption | omega | decide) only [wpA, wpB, wpC, wpD, *, -hK]
    refine take_ok (many := 13) h3 (by decide) (by decide) (by omega) fun s4 lo f4 h4 hlo => hK _ _ ?_
    clear hK
    refine seq_k fun K hK => ?_
    have e1 : (if (lo : Int) > 1 then (lo : Int) else 1) = ((max 1 lo : Nat) : Int) := by split <;> omega
    have e2 : (if ((max 1 lo : Nat) : Int) + 1 < 12 then ((max 1 lo : Nat) : Int) + 1 else 12) = ((min 12 (max 1 lo + 1) : Nat) : Int) := by split <;> omega
    try simp (disch := first | assumption | omega | decide) only [wpA, wpB, wpC, wpD, *, -hK, max2_e, min2_e]
    have h5 : PenE p w (c + 35 + 5 * i + 1) (s4 ++ [MO.lst [.non, .int (max 1 lo : Nat), .int 12, .int (min 12 (max 1 lo + 1) : Nat)]]) := h4.fr0 .app
    have hL : (s4 ++ [MO.lst [.non, .int (max 1 lo : Nat), .int 12, .int (min 12 (max 1 lo + 1) : Nat)]])[s4.length]? = some (.lst [.non, .int (max 1 lo : Nat), .int 12, .int (min 12 (max 1 lo + 1) : Nat)]) := by simp
    have f5 : Fr [p] s (s4 ++ [MO.lst [.non, .int (max 1 lo : Nat), .int 12, .int (min 12 (max 1 lo + 1) : Nat)]]) := (f3.trans f4).trans .app
    have hne : s4.length ≠ p := Nat.ne_of_gt h4.lt.1
    generalize s4 ++ [MO.lst [.non, .int (max 1 lo : Nat), .int 12, .int (min 12 (max 1 lo + 1) : Nat)]] = s5 at h5 hL f5 ⊢
    generalize s4.length = n5 at hL hne ⊢
    clear e1 e2
    refine take_ok (many := 4) h5 (by decide) (by decide) (by omega) fun s6 r f6 h6 hr => ?_
    have hL6 := f6.get hL (by simpa using hne)
    have f06 := f5.trans f6
    obtain ⟨hi', hat, ho⟩ : ∃ hi', atQ [Dv.non, .int (max 1 lo : Nat), .int 12, .int (min 12 (max 1 lo + 1) : Nat)] (r : Int) = some (hiD hi') ∧ oks lo hi' := by
      have : r = 0 ∨ r = 1 ∨ r = 2 ∨ r = 3 := by omega
      rcases this with rfl | rfl | rfl | rfl
      · exact ⟨none, rfl, by omega, by simp⟩
      · exact ⟨some (max 1 lo), rfl, by omega, by intro k hk; cases hk; omega⟩
      · exact ⟨some 12, rfl, by omega, by intro k hk; cases hk; omega⟩
      · exact ⟨some (min 12 (max 1 lo + 1)), rfl, by omega, by intro k hk; cases hk; omega⟩
    try simp (disch := first | assumption | omega | decide) only [wpA, wpB, wpC, wpD, *, -hK]
    refine hK _ _ ?_
    clear hK hL hL6 hat hlo f4 h4 f3 h3 h5 f5 f6
    refine seq_k fun K hK => ?_
    have fin : ∀ (lo : Nat) (hi : Option Nat) (s7 : Mst), oks lo hi → Fr [p] s s7 → PenE p w (c + 35 + 5 * i + 4) s7 → K [some (.loc p), some (.loc sn), some (foD g), some x, some (.int lo), some (hiD hi), x6] s7 := by
      intro lo hi s7 ho f7 h7
      refine hK _ _ ?_
      clear hK
      refine seq_k fun K hK => ?_
      try simp (disch := first | assumption | omega | decide) only [wpA, wpB, wpC, wpD, *, -hK]
      refine hK _ _ ?_
      clear hK
      have hg2 : GrE (.times g lo hi) (3 + 2 * i + 1) (12 * gzB i + 24) := ⟨⟨hg.ok, ho⟩, by have := hg.dep; simp only [Fo.dep]; omega, by have := times_sz g ho; have := hg.sz; omega⟩
      have ef : Dv.tup [.str (Str.ofString "times"), foD g, .int lo, hiD hi] = foD (.times g lo hi) := by simp only [foD]
      rw [ef]
      generalize Fo.times g lo hi = f2 at hg2 ⊢
      clear ef
      refine seq_k fun K hK => ?_
      try simp (disch := first | assumption | omega | decide) only [wpA, wpB, wpC, wpD, *, -hK]
      refine take_ok (many := 4) h7 (by decide) (by decide) (by omega) fun s8 way f8 h8 hway => hK _ _ ?_
      clear hK
      have f08 := f7.trans f8
      have hs8 := hs.fr f08 (by simpa using hp)
      have hat8 := hs8.at_
      obtain ⟨y, hy, ey⟩ := sg_first hs.pos
      obtain ⟨z, hz, ez⟩ := sg_last hs.pos
      refine if_k fun KA KB hA hB => ?_
      try simp (disch := first | assumption | omega | decide) only [wpA, wpB, wpC, wpD, *, -hA, -hB]
      by_cases hw2 : way < 2
      · rw [if_pos (by omega)]
        refine hA _ ?_
        clear hA hB
        try simp (disch := first | assumption | omega | decide) only [wpA, wpB, wpC, wpD, *]
        have : way = 0 ∨ way = 1 := by omega
        rcases this with rfl | rfl
        · refine toO' (d := .tup [.str (Str.ofString "row"), .tup [foD f2, .tup [.str (Str.ofString "sign"), .str y]]]) rfl ?_
          refine ⟨f08.trans .app, (h8.fr0 .app).le (by omega), .row [f2, .sign y], _, _, _, _, by simp only [foD, foDs]; rfl, ⟨?_, ?_, ?_⟩⟩
          · simp only [Fo.ok, Fo.oksL]; exact ⟨hg2.ok, hs.low y hy, trivial⟩
          · have := hg2.dep; simp only [Fo.dep, Fo.deps]; omega
          · have := hg2.sz; simp only [Fo.sz, Fo.szs, gzB]; omega
        · refine toO' (d := .tup [.str (Str.ofString "pick"), .tup [.tup [.str (Str.ofString "sign"), .str z], foD f2]]) rfl ?_
          refine ⟨f08.trans .app, (h8.fr0 .app).le (by omega), .pick [.sign z, f2], _, _, _, _, by simp only [foD, foDs]; rfl, ⟨?_, ?_, ?_⟩⟩
          · simp only [Fo.ok, Fo.oksL]; exact ⟨hs.low z hz, hg2.ok, trivial⟩
          · have := hg2.dep; simp only [Fo.dep, Fo.deps]; omega
          · have := hg2.sz; simp only [Fo.sz, Fo.szs, gzB]; omega
      · rw [if_neg (by omega)]
        refine hB _ ?_
        clear hA hB
        try simp (disch := first | assumption | omega | decide) only [wpA, wpB, wpC, wpD, *]
        exact ⟨h8.le (by omega), f2, _, _, _, _, rfl, hg2.ok, by have := hg2.dep; omega, by have := hg2.sz; simp only [gzB]; omega⟩
    clear hK
    refine if_k fun KA KB hA hB => ?_
    try simp (disch := first | assumption | omega | decide) only [wpA, wpB, wpC, wpD, *, -hA, -hB, -fin]
    refine take_ok (many := 2) h6 (by decide) (by decide) (by omega) fun s7 t f7 h7 ht => ?_
    try simp (disch := first | assumption | omega | decide) only [wpA, wpB, wpC, wpD, *, -hA, -hB, -fin]
    by_cases ht0 : t = 0
    · rw [if_pos (by omega)]
      refine hA _ ?_
      clear hA hB
      try simp (disch := first | assumption | omega | decide) only [wpA, wpB, wpC, wpD, *, -fin]
      rw [← bigL_D]
      have h8 : PenE p w (c + 35 + 5 * i + 3) (s7 ++ [MO.lst (bigL.map (fun b => Dv.tup [.int (b.1 : Nat), hiD b.2]))]) := h7.fr0 .app
      have hL : (s7 ++ [MO.lst (bigL.map (fun b => Dv.tup [.int (b.1 : Nat), hiD b.2]))])[s7.length]? = some (.lst (bigL.map (fun b => Dv.tup [.int (b.1 : Nat), hiD b.2]))) := by simp
      have f8 : Fr [p] s (s7 ++ [MO.lst (bigL.map (fun b => Dv.tup [.int (b.1 : Nat), hiD b.2]))]) := (f06.trans f7).trans .app
      have hne : s7.length ≠ p := Nat.ne_of_gt h7.lt.1
      generalize s7 ++ [MO.lst (bigL.map (fun b => Dv.tup [.int (b.1 : Nat), hiD b.2]))] = s8 at h8 hL f8 ⊢
      generalize s7.length = n8 at hL hne ⊢
      refine take_ok (many := 7) h8 (by decide) (by decide) (by omega) fun s9 r9 f9 h9 hr9 => ?_
      have hL9 := f9.get hL (by simpa using hne)
      have hr' : r9 < bigL.length := hr9
      have hat : atQ (bigL.map (fun b => Dv.tup [.int (b.1 : Nat), hiD b.2])) (r9 : Int) = some (.tup [.int (bigL[r9].1 : Nat), hiD bigL[r9].2]) := atQ_nat (by rw [List.getElem?_map, List.getElem?_eq_getElem hr']; rfl)
      try simp (disch := first | assumption | omega | decide) only [wpA, wpB, wpC, wpD, *, -fin]
      exact fin _ _ s9 (bigL_ok _ (List.getElem_mem hr')) (f8.trans f9) (h9.le (by omega))
    · rw [if_neg (by omega)]
      refine hB _ ?_
      clear hA hB
      try simp (disch := first | assumption | omega | decide) only [wpA, wpB, wpC, wpD, *, -fin]
      exact fin _ _ s7 ho (f06.trans f7) (h7.le (by omega))
  · rintro σ s3 ⟨f3, h3, g, x3, x4, x5, x6, rfl, hg⟩
    rw [rngI_len] at h3 hg
    refine hK _ _ ?_
    clear hK
    try simp (disch := first | assumption | omega | decide) only [wpA, wpB, wpC, wpD, *, -q]
    have hm2 : m ≤ 2 := by omega
    have hz : gzB m ≤ 10000 := by
      have : m = 0 ∨ m = 1 ∨ m = 2 := by omega
      rcases this with rfl | rfl | rfl <;> decide
    exact q s3 g f3 (h3.le (by omega)) ⟨hg.ok, by have := hg.dep; omega, by have := hg.sz; omega⟩
end
end Mid
namespace Mid
open PySem
noncomputable section
variable {s s' : Mst} {Q : Dv → Mst → Prop} {p w c : Nat}
theorem cut_all {α : Type} {l : List α} {n : Nat} (h : l.length ≤ n) : cutQ l none (some (n : Int)) = l := by
  unfold cutQ sIxQ
  simp only
  rw [if_neg (by omega), Int.toNat_natCast, Nat.min_eq_right h]
  simp
theorem pen_ok {ns : List Int} (hl : ns.length ≤ 63) (q : ∀ s' p w, Fr [] s s' → PenE p w 0 s' → s.length ≤ p → s.length ≤ w → Q (.loc p) s') : (f_law_e_pen [.clst (ns.map .int)] s).to Q := by
  unfold f_law_e_pen
  refine fun_at [some (.clst (ns.map .int))] rfl rfl ?_
  unfold m_law_e_pen
  try simp (disch := first | assumption | omega | decide) only [wpA, wpB, wpC, wpD, *, -q]
  unfold slQ
  simp only
  rw [show (63 : Int) = ((63 : Nat) : Int) from rfl, cut_all (by simpa using hl)]
  try simp (disch := first | assumption | omega | decide) only [wpA, wpB, wpC, wpD, *, -q]
  have hb : bList [.loc s.length] (s ++ [MO.lst (ns.map Dv.int)]) = .ok (.loc (s ++ [MO.lst (ns.map Dv.int)]).length) (s ++ [MO.lst (ns.map Dv.int)] ++ [.lst (ns.map Dv.int)]) := bList_seq (by unfold seqOf; simp)
  show (mNew _ _).to _
  rw [w_new, hb, to_ok]
  try simp (disch := first | assumption | omega | decide) only [wpA, wpB, wpC, wpD, *, -q]
  refine q _ _ (s.length + 1) (by simp only [List.append_assoc]; exact .app) ⟨0, 0, ns, ?_, ?_, ?_, by omega, by omega, by omega⟩ (by simp; omega) (by omega)
  · simp [Nat.add_assoc]
  · simp
  · simp
theorem right_ok {f : Fo} (h : GrE f 12 10000) (q : ∀ s', Fr [] s s' → Q (.bl true) s') : (f_law_e_opened_right [foD f] s).to Q := by
  have hok := h.ok
  have hd := h.dep
  have hz := h.sz
  have hp : f.pcs ≤ 120000 := by
    have := Fo.pcs_le f hok
    have h1 : f.dep * f.sz ≤ 12 * f.sz := Nat.mul_le_mul_right _ hd
    omega
  unfold f_law_e_opened_right
  refine fun_at [some (foD f), none, none, none] rfl rfl ?_
  unfold m_law_e_opened_right
  refine seq_k fun K hK => ?_
  try simp (disch := first | assumption | omega | decide) only [wpA, wpB, wpC, wpD, *, -q, -hK]
  refine hK _ _ ?_
  clear hK
  refine seq_k fun K hK => ?_
  refine if_k fun KA KB hA hB => ?_
  try simp (disch := first | assumption | omega | decide) only [wpA, wpB, wpC, wpD, *, -q, -hK, -hA, -hB]
  refine size_ok 12 f hd hok (by omega) s _ fun s1 f1 => ?_
  try simp (disch := first | assumption | omega | decide) only [wpA, wpB, wpC, wpD, *, -q, -hK, -hA, -hB]
  -- behind what is due
  have fin : ∀ s2, Fr [] s s2 → K [some (foD f), some (toldD f), none, none] s2 := by
    intro s2 f2
    refine hK _ _ ?_
    clear hK hA hB
    have er : ∀ s, bRepr [foD f] s = .ok (.str (foP f).shown) s := fun s => repr_form hok (by omega) (by omega)
    have hsk := (foP_sh f hok).1.1
    obtain ⟨x, hx, ex⟩ : ∃ x, PyData.strOk x = true ∧ ∀ s, bRepr [toldD f] s = .ok (.str x) s := by
      unfold toldD
      split
      · have := pcs_opn f hok
        have := Fo.dep_pcs f.opn
        exact repr_told (ok_opn f hok) (by omega) (by omega)
      · exact repr_many
    generalize (foP f).shown = y at er hsk
    refine seq_k fun K hK => ?_
    try simp (disch := first | assumption | omega | decide) only [wpA, wpB, wpC, wpD, *, -q, -hK]
    refine hK _ _ ?_
    clear hK
    refine seq_k fun K hK => ?_
    try simp (disch := first | assumption | omega | decide) only [wpA, wpB, wpC, wpD, *, -q, -hK]
    refine for_by (fun i σ s3 => Fr [] s s3 ∧ ∃ x3, σ = [some (foD f), some (toldD f), some (.str y), x3]) ⟨f2, none, rfl⟩ (fun _ _ _ _ => trivial) ?_ ?_
    · rintro i z σ s3 hz' ⟨f3, x3, rfl⟩
      simp only [w_gN, setS, set0]
      refine if_k fun KA KB hA hB => ?_
      try simp (disch := first | assumption | omega | decide) only [wpA, wpB, wpC, wpD, *, -q, -hK, -hA, -hB]
      refine told_ok hd hok (by omega) fun s4 f4 => ?_
      try simp (disch := first | assumption | omega | decide) only [wpA, wpB, wpC, wpD, *, -q, -hK, -hA, -hB]
      rw [oNe_str hx hx, to_ok]
      try simp (disch := first | assumption | omega | decide) only [wpA, wpB, wpC, wpD, *, -q, -hK, -hA, -hB]
      try simp only [decide_true, Bool.not_true, Bool.false_eq_true, if_false]
      rw [oNe_str hsk hsk, to_ok]
      try simp (disch := first | assumption | omega | decide) only [wpA, wpB, wpC, wpD, *, -q, -hK, -hA, -hB]
      try simp only [decide_true, Bool.not_true, Bool.false_eq_true, if_false]
      refine hB _ ?_
      try simp (disch := first | assumption | omega | decide) only [wpA, wpB, wpC, wpD, *, -q, -hK]
      exact ⟨f3.trans f4, _, rfl⟩
    · rintro σ s3 ⟨f3, x3, rfl⟩
      refine hK _ _ ?_
      try simp (disch := first | assumption | omega | decide) only [wpA, wpB, wpC, wpD, *, -q]
      exact q s3 f3
  clear hK
  unfold toldD at fin
  by_cases h3 : f.sz ≤ 300
  · rw [if_pos (by omega)]
    simp only [h3, if_true] at fin
    refine hA _ ?_
    clear hA hB
    try simp (disch := first | assumption | omega | decide) only [wpA, wpB, wpC, wpD, *, -q, -fin]
    exact law_opened_ok 12 f hd hok (by omega) s1 _ fun s2 f2 => fin s2 (f1.trans f2)
  · rw [if_neg (by omega)]
    simp only [h3, if_false] at fin
    refine hB _ ?_
    clear hA hB
    try simp (disch := first | assumption | omega | decide) only [wpA, wpB, wpC, wpD, *, -q, -fin]
    exact fin s1 f1
theorem law_true (ns : List Int) (hl : ns.length ≤ 63) (hb : ∀ z ∈ ns, PySem.Builtin.Int.intBits z ≤ 1048576) : ∃ s, f_law [.clst (ns.map .int)] [] = .ok (.bl true) s := by
  suffices h : (f_law [.clst (ns.map .int)] []).to fun d _ => d = .bl true by
    obtain ⟨d, s, e, rfl⟩ := to_ex h
    exact ⟨s, e⟩
  clear hb
  unfold f_law
  refine fun_at [some (.clst (ns.map .int)), none, none, none, none, none, none, none] rfl rfl ?_
  unfold m_law
  refine seq_k fun K hK => ?_
  try simp (disch := first | assumption | omega | decide) only [wpA, wpB, wpC, wpD, *, -hK]
  refine pen_ok hl fun s1 p w f1 h1 _ _ => hK _ _ ?_
  clear hK
  refine seq_k fun K hK => ?_
  try simp (disch := first | assumption | omega | decide) only [wpA, wpB, wpC, wpD, *, -hK]
  refine for_by (fun i σ s2 => PenE p w (200 * i) s2 ∧ ∃ x2, σ = [some (.clst (ns.map .int)), some (.loc p), x2, none, none, none, none, none]) ⟨h1, none, rfl⟩ (fun _ _ _ _ => trivial) ?_ ?_
  · rintro i x σ s2 hx ⟨h2, x2, rfl⟩
    have hi : i < 5 := by have := (List.getElem?_eq_some_iff.mp hx).1; simpa [rngI_len] using this
    simp only [w_gN, setS, set0]
    refine if_k fun KA KB hA hB => ?_
    try simp (disch := first | assumption | omega | decide) only [wpA, wpB, wpC, wpD, *, -hK, -hA, -hB]
    refine signs_ok h2 (by omega) fun s3 sn sg f3 h3 hn hs => ?_
    try simp (disch := first | assumption | omega | decide) only [wpA, wpB, wpC, wpD, *, -hK, -hA, -hB]
    have hlt := h2.lt
    refine great_ok h3 hs (by omega) (by omega) (by omega) fun s4 f f4 h4 hf => ?_
    try simp (disch := first | assumption | omega | decide) only [wpA, wpB, wpC, wpD, *, -hK, -hA, -hB]
    refine right_ok ⟨hf.ok, by have := hf.dep; omega, hf.sz⟩ fun s5 f5 => ?_
    try simp (disch := first | assumption | omega | decide) only [wpA, wpB, wpC, wpD, *, -hK, -hA, -hB]
    refine hB _ ?_
    try simp (disch := first | assumption | omega | decide) only [wpA, wpB, wpC, wpD, *, -hK]
    exact ⟨(h4.fr0 f5).le (by omega), _, rfl⟩
  · rintro σ s2 ⟨h2, x2, rfl⟩
    rw [rngI_len] at h2
    refine hK _ _ ?_
    clear hK
    refine seq_k fun K hK => ?_
    try simp (disch := first | assumption | omega | decide) only [wpA, wpB, wpC, wpD, *, -hK]
    refine signs_ok h2 (by simp) fun s3 sn sg f3 h3 hn hs => ?_
    have hat := hs.at_
    obtain ⟨y, hy, ey⟩ := sg_first hs.pos
    have hyl := hs.low y hy
    try simp (disch := first | assumption | omega | decide) only [wpA, wpB, wpC, wpD, *, -hK]
    refine hK _ _ ?_
    clear hK
    refine seq_k fun K hK => ?_
    try simp (disch := first | assumption | omega | decide) only [wpA, wpB, wpC, wpD, *, -hK]
    refine hK _ _ ?_
    clear hK
    refine seq_k fun K hK => ?_
    try simp (disch := first | assumption | omega | decide) only [wpA, wpB, wpC, wpD, *, -hK]
    have hL : (s3 ++ [MO.lst [.int 1, .int 2]])[s3.length]? = some (.lst [.int 1, .int 2]) := by simp
    generalize s3 ++ [MO.lst [.int 1, .int 2]] = s4 at hL ⊢
    generalize s3.length = n4 at hL ⊢
    refine for_by (fun i σ s5 => Fr [] s4 s5 ∧ ∃ x2 x5 x6 x7, σ = [some (.clst (ns.map .int)), some (.loc p), x2, some (.tup [.str (Str.ofString "sign"), .str y]), some (.tup [.str (Str.ofString "times"), .tup [.str (Str.ofString "sign"), .str y], .int 0, .int 12]), x5, x6, x7]) ⟨.refl, _, none, none, none, rfl⟩ (fun i σ s5 h => ⟨h.1.get hL (by simp), trivial⟩) ?_ ?_
    · rintro i x σ s5 hx ⟨f5, x2, x5, x6, x7, rfl⟩
      obtain ⟨k, rfl, hk⟩ : ∃ k : Nat, x = .int (k : Int) ∧ (k = 1 ∨ k = 2) := by
        rcases i with _ | _ | i
        · simp at hx; exact ⟨1, hx.symm, .inl rfl⟩
        · simp at hx; exact ⟨2, hx.symm, .inr rfl⟩
        · simp at hx
      simp only [w_gN, setS, set0]
      refine seq_k fun K hK => ?_
      try simp (disch := first | assumption | omega | decide) only [wpA, wpB, wpC, wpD, *, -hK]
      rw [oMul_tup (by omega), to_ok, oAdd_tup (by simp; omega), to_ok]
      refine hK _ _ ?_
      clear hK
      refine seq_k fun K hK => ?_
      try simp (disch := first | assumption | omega | decide) only [wpA, wpB, wpC, wpD, *, -hK]
      rw [show (7 : Int) = ((7 : Nat) : Int) from rfl, oMul_tup (by omega), to_ok, oAdd_tup (by simp), to_ok]
      refine hK _ _ ?_
      clear hK
      have hok : ∀ f ∈ List.replicate k (Fo.sign y), f.ok := fun f hf => by rw [(List.mem_replicate.mp hf).2]; exact hyl
      have hszs : ∀ k, Fo.szs (List.replicate k (Fo.sign y)) = k := fun k => by
        induction k with
        | zero => rfl
        | succ k ih => rw [List.replicate_succ]; simp only [Fo.szs, Fo.sz, ih]; omega
      have hdeps : ∀ k, Fo.deps (List.replicate k (Fo.sign y)) ≤ 1 := fun k => by
        induction k with
        | zero => simp [Fo.deps]
        | succ k ih => rw [List.replicate_succ]; simp only [Fo.deps, Fo.dep]; omega
      obtain ⟨F, eF⟩ : ∃ F : Fo, F = .row (List.replicate 7 (.times (.sign y) 0 (some 12)) ++ [.row ([.times (.sign y) 0 (some 12), .times (.sign y) 0 (some 6)] ++ List.replicate k (.sign y))]) := ⟨_, rfl⟩
      have eD : Dv.tup [Dv.str (Str.ofString "row"), Dv.tup (List.replicate 7 (Dv.tup [Dv.str (Str.ofString "times"), Dv.tup [Dv.str (Str.ofString "sign"), Dv.str y], Dv.int 0, Dv.int 12]) ++ [Dv.tup [Dv.str (Str.ofString "row"), Dv.tup ([Dv.tup [Dv.str (Str.ofString "times"), Dv.tup [Dv.str (Str.ofString "sign"), Dv.str y], Dv.int 0, Dv.int 12], Dv.tup [Dv.str (Str.ofString "times"), Dv.tup [Dv.str (Str.ofString "sign"), Dv.str y], Dv.int 0, Dv.int 6]] ++ List.replicate k (Dv.tup [Dv.str (Str.ofString "sign"), Dv.str y]))]])] = foD F := by
        rw [eF]
        simp only [foD, foDs_map, List.map_append, List.map_replicate, List.map_cons, List.map_nil, hiD]
        rfl
      have hF : GrE F 12 10000 ∧ F.sz = 299 + k := by
        rw [eF]
        have e12 : (Fo.times (.sign y) 0 (some 12)).sz = 35 := by simp [Fo.sz, isPl, b2n]
        have e6 : (Fo.times (.sign y) 0 (some 6)).sz = 17 := by simp [Fo.sz, isPl, b2n]
        have es : (Fo.row (List.replicate 7 (.times (.sign y) 0 (some 12)) ++ [.row ([.times (.sign y) 0 (some 12), .times (.sign y) 0 (some 6)] ++ List.replicate k (.sign y))])).sz = 299 + k := by
          rw [show List.replicate 7 (Fo.times (.sign y) 0 (some 12)) = [.times (.sign y) 0 (some 12), .times (.sign y) 0 (some 12), .times (.sign y) 0 (some 12), .times (.sign y) 0 (some 12), .times (.sign y) 0 (some 12), .times (.sign y) 0 (some 12), .times (.sign y) 0 (some 12)] from rfl]
          generalize Fo.times (.sign y) 0 (some 12) = A at e12 ⊢
          generalize Fo.times (.sign y) 0 (some 6) = B at e6 ⊢
          simp only [List.cons_append, List.nil_append, Fo.sz, Fo.szs, hszs, e12, e6]
          omega
        refine ⟨⟨?_, ?_, by omega⟩, es⟩
        · refine Fo.oksL_iff.mpr fun f hf => ?_
          rcases List.mem_append.mp hf with hf | hf
          · rw [(List.mem_replicate.mp hf).2]; exact ⟨hyl, by decide, by simp⟩
          · simp only [List.mem_singleton] at hf
            subst hf
            refine Fo.oksL_iff.mpr fun f hf => ?_
            rcases List.mem_append.mp hf with hf | hf
            · simp only [List.mem_cons, List.not_mem_nil, or_false] at hf
              rcases hf with rfl | rfl <;> exact ⟨hyl, by decide, by simp⟩
            · exact hok f hf
        · have := hdeps k
          rw [show List.replicate 7 (Fo.times (.sign y) 0 (some 12)) = [.times (.sign y) 0 (some 12), .times (.sign y) 0 (some 12), .times (.sign y) 0 (some 12), .times (.sign y) 0 (some 12), .times (.sign y) 0 (some 12), .times (.sign y) 0 (some 12), .times (.sign y) 0 (some 12)] from rfl]
          simp only [List.cons_append, List.nil_append, Fo.dep, Fo.deps]
          omega
      rw [eD]
      clear eF eD hok hszs hdeps
      refine if_k fun KA KB hA hB => ?_
      try simp (disch := first | assumption | omega | decide) only [wpA, wpB, wpC, wpD, *, -hA, -hB]
      refine size_ok 12 F hF.1.dep hF.1.ok (by have := hF.2; omega) s5 _ fun s6 f6 => ?_
      try simp (disch := first | assumption | omega | decide) only [wpA, wpB, wpC, wpD, *, -hA, -hB]
      rw [if_neg (by omega)]
      refine right_ok hF.1 fun s7 f7 => ?_
      try simp (disch := first | assumption | omega | decide) only [wpA, wpB, wpC, wpD, *, -hA, -hB]
      refine hB _ ?_
      try simp (disch := first | assumption | omega | decide) only [wpA, wpB, wpC, wpD, *]
      exact ⟨(f5.trans f6).trans f7, _, _, _, _, rfl⟩
    · rintro σ s5 ⟨f5, x2, x5, x6, x7, rfl⟩
      refine hK _ _ ?_
      try simp (disch := first | assumption | omega | decide) only [wpA, wpB, wpC, wpD, *]
end
end Mid
open PySem PySem.W PyProof.Rows
set_option maxHeartbeats 0 in
theorem PySem.Challenge.cw_soleway_k77_forms_opened_holds : PySem.Challenge.rw_soleway_k77_forms_opened.Holds := by
  w_on; o_law; k_head; (case hw => w_witness2)
  k_fill
  refine Mid.walk_G (l := PySem.Challenge.rw_soleway_k77_forms_opened) (n := 63) (k := 35) (x := "script") (sp := fun w => Mid.spFX _ w 1 Mid.f_law) rfl (by decide) rfl ⟨rfl, by decide, by decide⟩ (fun w h Y => PySem.W.kIn_of Y) ?F (fun w H a ns hl hb hO hS at' => Mid.law_end hO hS (Mid.law_true ns hl hb))
  case F =>
    intro w mg fa h KX G hmg
    refine' Mid.Tk77.all_ok KX G hmg ?aC3 ?ic3 ?ty3 ?aC1 ?ic1 ?ty1 ?aC5 ?ic5 ?ty5 ?aC6 ?ic6 ?ty6 ?aC4 ?ic4 ?ty4 ?aC7 ?ic7 ?ty7 ?aC2 ?ic2 ?ty2 ?aC0 ?ic0 ?ty0 ?sb0 ?xga2 ?xgg2 ?xsb2 ?xhd2 ?xcl2 ?xmr2 ?xic2 ?xty2 ?xkc2 ?xno2 ?xL2 ?xsa2 ?aI2 ?tI2 ?lI2 ?cI2 ?kI2 ?sx2_7 ?sx2_4 ?sx2_6 ?sx2_5 ?sx2_1 ?sx2_3 ?sx2_2 ?sx2_0 ?sx2_ValueError ?gsp ?gtk ?rd0 ?rg0 ?fc0 ?z_str ?gG_PLAIN ?lG_PLAIN ?l_PLAIN_0 ?l_PLAIN_1 ?l_PLAIN_2 ?a0 ?l0 ?c0 ?k0 ?a1 ?l1 ?c1 ?k1 ?a2 ?l2 ?c2 ?k2 ?a3 ?l3 ?c3 ?k3 ?a4 ?l4 ?c4 ?k4 ?a5 ?l5 ?c5 ?k5 ?a6 ?l6 ?c6 ?k6 ?a7 ?l7 ?c7 ?k7 ?a8 ?l8 ?c8 ?k8 ?a9 ?l9 ?c9 ?k9 ?a10 ?l10 ?c10 ?k10 ?a11 ?l11 ?c11 ?k11 ?a12 ?l12 ?c12 ?k12 ?a13 ?l13 ?c13 ?k13 ?a14 ?l14 ?c14 ?k14 ?a15 ?l15 ?c15 ?k15 ?z_ValueError ?z_int ?z_isinstance ?z_len ?z_list ?z_max ?z_min ?z_range ?z_repr ?z_sorted ?z_sum ?z_tuple ?v_MOST_PIECES ?r_MOST_PIECES
    (case aC3 => k_is); (case ic3 => k_is); (case ty3 => k_is); (case aC1 => k_is); (case ic1 => k_is); (case ty1 => k_is); (case aC5 => k_is); (case ic5 => k_is); (case ty5 => k_is); (case aC6 => k_is); (case ic6 => k_is); (case ty6 => k_is); (case aC4 => k_is); (case ic4 => k_is); (case ty4 => k_is); (case aC7 => k_is); (case ic7 => k_is); (case ty7 => k_is); (case aC2 => k_is); (case ic2 => k_is); (case ty2 => k_is); (case aC0 => k_is); (case ic0 => k_is); (case ty0 => k_is); (case sb0 => k_is); (case xga2 => k_is); (case xgg2 => k_is); (case xsb2 => k_is); (case xhd2 => k_is); (case xcl2 => k_is); (case xmr2 => k_is); (case xic2 => k_is); (case xty2 => k_is); (case xkc2 => k_is); (case xno2 => k_is); (case xL2 => k_is); (case xsa2 => k_is); (case aI2 => k_is); (case tI2 => k_is); (case lI2 => k_is); (case cI2 => k_is); (case kI2 => k_is); (case sx2_7 => first | rfl | k_is); (case sx2_4 => first | rfl | k_is); (case sx2_6 => first | rfl | k_is); (case sx2_5 => first | rfl | k_is); (case sx2_1 => first | rfl | k_is); (case sx2_3 => first | rfl | k_is); (case sx2_2 => first | rfl | k_is); (case sx2_0 => first | rfl | k_is); (case sx2_ValueError => first | rfl | k_is); (case gsp => k_is); (case gtk => k_is); (case rd0 => k_is); (case rg0 => k_is); (case fc0 => k_is); (case z_str => k_is); (case gG_PLAIN => k_is); (case lG_PLAIN => k_is); (case l_PLAIN_0 => k_is); (case l_PLAIN_1 => k_is); (case l_PLAIN_2 => k_is); (case a0 => k_is); (case l0 => k_is); (case c0 => k_is); (case k0 => k_is); (case a1 => k_is); (case l1 => k_is); (case c1 => k_is); (case k1 => k_is); (case a2 => k_is); (case l2 => k_is); (case c2 => k_is); (case k2 => k_is); (case a3 => k_is); (case l3 => k_is); (case c3 => k_is); (case k3 => k_is); (case a4 => k_is); (case l4 => k_is); (case c4 => k_is); (case k4 => k_is); (case a5 => k_is); (case l5 => k_is); (case c5 => k_is); (case k5 => k_is); (case a6 => k_is); (case l6 => k_is); (case c6 => k_is); (case k6 => k_is); (case a7 => k_is); (case l7 => k_is); (case c7 => k_is); (case k7 => k_is); (case a8 => k_is); (case l8 => k_is); (case c8 => k_is); (case k8 => k_is); (case a9 => k_is); (case l9 => k_is); (case c9 => k_is); (case k9 => k_is); (case a10 => k_is); (case l10 => k_is); (case c10 => k_is); (case k10 => k_is); (case a11 => k_is); (case l11 => k_is); (case c11 => k_is); (case k11 => k_is); (case a12 => k_is); (case l12 => k_is); (case c12 => k_is); (case k12 => k_is); (case a13 => k_is); (case l13 => k_is); (case c13 => k_is); (case k13 => k_is); (case a14 => k_is); (case l14 => k_is); (case c14 => k_is); (case k14 => k_is); (case a15 => k_is); (case l15 => k_is); (case c15 => k_is); (case k15 => k_is); (case z_ValueError => k_is); (case z_int => k_is); (case z_isinstance => k_is); (case z_len => k_is); (case z_list => k_is); (case z_max => k_is); (case z_min => k_is); (case z_range => k_is); (case z_repr => k_is); (case z_sorted => k_is); (case z_sum => k_is); (case z_tuple => k_is); (case v_MOST_PIECES => k_is); (case r_MOST_PIECES => exact ⟨_, rfl⟩)
